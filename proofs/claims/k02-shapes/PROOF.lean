import PyProof.Rows.All
import Wide.All
import OpenK.AllK
import Wide.FinOn
import PySem.Challenge.RW_hearsay_k02_shapes
import HandS.ForMost
import HandS.ForExc
import HandS.IsInst
import HandS.Wide
import HandS.TupAny
import HandS.TupMul
import HandS.Deep
import PyProof.StrBlock2
import HandS.Ends
import HandS.Defaults
import KE.KStateDown
import HandS.More
import HandS.Head0
import HandS.Head1
import HandS.Head2
import HandS.HeadEnd
import HandS.HeadHook1
import HandS.HeadHook2
import HandS.EndBits
set_option Elab.async false
set_option linter.all false
section
set_option autoImplicit false
/-! A small deterministic semantics: data trees, a store of mutable objects, combinators for expressions, tests, statements. Plain Lean. -/
namespace Py
inductive D where
  | non | bl (b : Bool) | int (i : Int) | str (s : List Char) | tup (ds : List D) | ref (r : Nat)
deriving Inhabited
/-- a mutable object: a list; a list that is only read -/
inductive O where
  | lst (xs : List D) | frz (xs : List D)
deriving Inhabited
abbrev G := List O
structure Exc where
  cls : String
  fs : List (String × D)
inductive R (α : Type) where
  | ok (a : α) (g : G) | exc (e : Exc) (g : G) | bad
def R.bind {α β : Type} (r : R α) (f : α → G → R β) : R β :=
  match r with | .ok a g => f a g | .exc e g => .exc e g | .bad => .bad
def ofO {α : Type} (o : Option (α × G)) : R α := match o with | some (a, g) => .ok a g | none => .bad
def ofP {α : Type} (o : Option α) (g : G) : R α := match o with | some a => .ok a g | none => .bad
abbrev Env := List (Option D)
abbrev M := Env → G → R D
abbrev T := Env → G → R Bool
abbrev A := Env → G → R (List D)
abbrev F := List D → G → R D
inductive SR where
  | next (ρ : Env) (g : G) | ret (d : D) (g : G) | brk (ρ : Env) (g : G) | cont (ρ : Env) (g : G) | exc (e : Exc) (ρ : Env) (g : G) | bad
abbrev S := Env → G → SR

abbrev LINE : Nat := 16777216

@[simp] theorem R.bind_ok {α β : Type} (a : α) (g : G) (f : α → G → R β) : (R.ok a g).bind f = f a g := rfl
@[simp] theorem R.bind_exc {α β : Type} (e : Exc) (g : G) (f : α → G → R β) : (R.exc e g).bind f = R.exc e g := rfl
@[simp] theorem R.bind_bad {α β : Type} (f : α → G → R β) : (R.bad).bind f = R.bad := rfl
@[simp] theorem ofO_some {α : Type} (a : α) (g : G) : ofO (some (a, g)) = R.ok a g := rfl
@[simp] theorem ofO_none {α : Type} : ofO (none : Option (α × G)) = R.bad := rfl
@[simp] theorem ofP_some {α : Type} (a : α) (g : G) : ofP (some a) g = R.ok a g := rfl
@[simp] theorem ofP_none {α : Type} (g : G) : ofP (none : Option α) g = R.bad := rfl

/-! ### expressions -/
def mVar (i : Nat) : M := fun ρ g => match ρ[i]? with | some (some d) => .ok d g | _ => .bad
def mC (d : D) : M := fun _ g => .ok d g
/-- an operation on values: pure; or one that makes an object -/
abbrev B2 := D → D → G → Option D
abbrev B1 := D → G → Option D
abbrev N2 := D → D → G → Option (D × G)
abbrev N1 := D → G → Option (D × G)
def mOp (f : N2) (a b : M) : M := fun ρ g => (a ρ g).bind fun x g1 => (b ρ g1).bind fun y g2 => ofO (f x y g2)
def mUn (f : N1) (a : M) : M := fun ρ g => (a ρ g).bind fun x g1 => ofO (f x g1)
def p2 (f : B2) : N2 := fun x y g => (f x y g).map fun d => (d, g)
def p1 (f : B1) : N1 := fun x g => (f x g).map fun d => (d, g)
def mNil : A := fun _ g => .ok [] g
def mCons (a : M) (as : A) : A := fun ρ g => (a ρ g).bind fun x g1 => (as ρ g1).bind fun xs g2 => .ok (x :: xs) g2
def mTup (as : A) : M := fun ρ g => (as ρ g).bind fun xs g1 => if xs.length ≤ LINE then .ok (.tup xs) g1 else .bad
def newL (xs : List D) (g : G) : D × G := (.ref g.length, g ++ [.lst xs])
def mLst (as : A) : M := fun ρ g => (as ρ g).bind fun xs g1 => if xs.length ≤ LINE then .ok (.ref g1.length) (g1 ++ [.lst xs]) else .bad
def mCall (f : F) (as : A) : M := fun ρ g => (as ρ g).bind fun xs g1 => f xs g1
def mIf (t : T) (a b : M) : M := fun ρ g => (t ρ g).bind fun c g1 => if c then a ρ g1 else b ρ g1
def asB (d : D) : Option Bool := match d with | .bl c => some c | _ => none
def mAnd (a b : M) : M := fun ρ g => (a ρ g).bind fun x g1 => (ofP (asB x) g1).bind fun c g2 => if c then b ρ g2 else .ok (.bl false) g2
def mOr (a b : M) : M := fun ρ g => (a ρ g).bind fun x g1 => (ofP (asB x) g1).bind fun c g2 => if c then .ok (.bl true) g2 else b ρ g2
def mNot (a : M) : M := fun ρ g => (a ρ g).bind fun x g1 => (ofP (asB x) g1).bind fun c g2 => .ok (.bl (!c)) g2
/-- a comparison of three: a op b op' c -/
def mChain (f f' : B2) (a b c : M) : M := fun ρ g => (a ρ g).bind fun x g1 => (b ρ g1).bind fun y g2 => (ofP (f x y g2) g2).bind fun z g3 =>
  (ofP (asB z) g3).bind fun k g4 => if k then (c ρ g4).bind fun w g5 => ofP (f' y w g5) g5 else .ok (.bl false) g4
/-! ### tests -/
def tVal (a : M) : T := fun ρ g => (a ρ g).bind fun x g1 => ofP (asB x) g1
def truth (d : D) (g : G) : Option Bool := match d with
  | .non => some false
  | .bl b => some b
  | .int i => some (i != 0)
  | .str s => if s.length ≤ LINE then some (s.length != 0) else none
  | .tup ds => some (!ds.isEmpty)
  | .ref r => match g[r]? with | some (.lst xs) => some (!xs.isEmpty) | some (.frz xs) => some (!xs.isEmpty) | none => none
def tTru (a : M) : T := fun ρ g => (a ρ g).bind fun x g1 => ofP (truth x g1) g1
def tAnd (a b : T) : T := fun ρ g => (a ρ g).bind fun c g1 => if c then b ρ g1 else .ok false g1
def tOr (a b : T) : T := fun ρ g => (a ρ g).bind fun c g1 => if c then .ok true g1 else b ρ g1
def tNot (a : T) : T := fun ρ g => (a ρ g).bind fun c g1 => .ok (!c) g1
def tYes : T := fun _ g => .ok true g

/-! ### values as sequences, as data -/
def seqOf (d : D) (g : G) : Option (List D) := match d with
  | .tup ds => some ds
  | .ref r => match g[r]? with | some (.lst xs) => some xs | some (.frz xs) => some xs | none => none
  | _ => none
def lstOf (d : D) (g : G) : Option (List D) := match d with
  | .ref r => match g[r]? with | some (.lst xs) => some xs | some (.frz xs) => some xs | none => none
  | _ => none
/-- a list that may be written: its place and items -/
def mutOf (d : D) (g : G) : Option (Nat × List D) := match d with
  | .ref r => match g[r]? with | some (.lst xs) => some (r, xs) | _ => none
  | _ => none
/-- data: a value with its lists opened -/
inductive P where
  | non | bl (b : Bool) | int (i : Int) | str (s : List Char) | tup (ds : List P) | lst (ds : List P)
deriving Inhabited
def viewL (f : D → Option P) : List D → Option (List P)
  | [] => some []
  | d :: r => match f d, viewL f r with | some p, some ps => some (p :: ps) | _, _ => none
/-- nested to a depth of n -/
def view (g : G) : Nat → D → Option P
  | _, .non => some .non
  | _, .bl b => some (.bl b)
  | _, .int i => some (.int i)
  | _, .str s => some (.str s)
  | 0, .tup _ => none
  | 0, .ref _ => none
  | n + 1, .tup ds => (viewL (view g n) ds).map .tup
  | n + 1, .ref r => match lstOf (.ref r) g with | some xs => (viewL (view g n) xs).map .lst | none => none
def b2i (b : Bool) : Int := if b then 1 else 0
mutual
/-- Python's == of data -/
def P.eqv : P → P → Bool
  | .non, .non => true
  | .bl a, .bl b => a == b
  | .bl a, .int j => b2i a == j
  | .int i, .bl b => i == b2i b
  | .int i, .int j => i == j
  | .str x, .str y => x == y
  | .lst xs, .lst ys => P.eqvs xs ys
  | .tup xs, .tup ys => P.eqvs xs ys
  | _, _ => false
def P.eqvs : List P → List P → Bool
  | [], [] => true
  | x :: xs, y :: ys => P.eqv x y && P.eqvs xs ys
  | _, _ => false
end
/-- == of values -/
def eqD (x y : D) (g : G) : Option Bool := match view g 60 x, view g 60 y with | some p, some q => some (P.eqv p q) | _, _ => none
/-- flat values: in by items -/
def flat : D → Bool
  | .non | .bl _ | .int _ | .str _ => true
  | _ => false
def eqF : D → D → Bool
  | .non, .non => true
  | .bl a, .bl b => a == b
  | .bl a, .int b => b2i a == b
  | .int a, .bl b => a == b2i b
  | .int a, .int b => a == b
  | .str a, .str b => a == b
  | _, _ => false

/-! ### operators -/
def mulOk (i j : Int) : Bool := decide (i.natAbs.log2 + j.natAbs.log2 < 100000000)
def powOk (i j : Int) : Bool := decide (0 ≤ j ∧ ((i.natAbs.log2 + 1 : Nat) : Int) * j ≤ 134217728)
def oAdd : N2 := fun x y g => match x, y with
  | .int i, .int j => some (.int (i + j), g)
  | .str s, .str t => if s.length + t.length ≤ LINE then some (.str (s ++ t), g) else none
  | .tup ds, .tup es => if ds.length + es.length ≤ LINE then some (.tup (ds ++ es), g) else none
  | .ref a, .ref b => match mutOf (.ref a) g, mutOf (.ref b) g with
    | some (_, xs), some (_, ys) => if xs.length + ys.length ≤ LINE then some (newL (xs ++ ys) g) else none
    | _, _ => none
  | _, _ => none
def oSub : N2 := fun x y g => match x, y with | .int i, .int j => some (.int (i - j), g) | _, _ => none
def oMul : N2 := fun x y g => match x, y with
  | .int i, .int j => if mulOk i j then some (.int (i * j), g) else none
  | .str s, .int n => if 2 ≤ n ∧ n ≤ 1000 ∧ s.length ≤ 1000 then some (.str (List.replicate n.toNat s).flatten, g) else none
  | .tup ds, .int n => if 2 ≤ n ∧ n ≤ 1000 ∧ ds.length ≤ 1000 ∧ ds.length ≠ 0 then some (.tup (List.replicate n.toNat ds).flatten, g) else none
  | .ref a, .int n => match mutOf (.ref a) g with
    | some (_, xs) => if 0 ≤ n ∧ n ≤ 1000 ∧ xs.length * n.toNat ≤ LINE then some (newL (List.replicate n.toNat xs).flatten g) else none
    | none => none
  | _, _ => none
def oFdiv : N2 := fun x y g => match x, y with | .int i, .int j => if 0 < j ∧ j.natAbs.log2 < 9000 then some (.int (i / j), g) else none | _, _ => none
def oMod : N2 := fun x y g => match x, y with | .int i, .int j => if 0 < j then some (.int (i % j), g) else none | _, _ => none
def oPow : N2 := fun x y g => match x, y with | .int i, .int j => if powOk i j then some (.int (i ^ j.toNat), g) else none | _, _ => none
def oNeg : N1 := fun x g => match x with | .int i => some (.int (-i), g) | _ => none
def oEq : B2 := fun x y g => (eqD x y g).map .bl
def oNe : B2 := fun x y g => (eqD x y g).map fun b => .bl (!b)
def oLt : B2 := fun x y _ => match x, y with | .int i, .int j => some (.bl (decide (i < j))) | _, _ => none
def oLe : B2 := fun x y _ => match x, y with | .int i, .int j => some (.bl (decide (i ≤ j))) | _, _ => none
def oGt : B2 := fun x y _ => match x, y with | .int i, .int j => some (.bl (decide (j < i))) | _, _ => none
def oGe : B2 := fun x y _ => match x, y with | .int i, .int j => some (.bl (decide (j ≤ i))) | _, _ => none
def oIsN : B2 := fun x y _ => match x, y with | .non, .non => some (.bl true) | _, .non => some (.bl false) | _, _ => none
def oNotN : B2 := fun x y _ => match x, y with | .non, .non => some (.bl false) | _, .non => some (.bl true) | _, _ => none
/-- x in y -/
def inD (x y : D) (g : G) : Option Bool := match x, y with
  | .str [c], .str t => some (decide (c ∈ t))
  | x, .tup ds => if flat x && ds.all flat then some (ds.any fun y => eqF y x) else none
  | x, .ref r => match lstOf (.ref r) g with
    | some xs => match view g 60 x, viewL (view g 60) xs with
      | some p, some ps => some (ps.any fun q => P.eqv q p)
      | _, _ => none
    | none => none
  | _, _ => none
def oIn : B2 := fun x y g => (inD x y g).map .bl
def oNotIn : B2 := fun x y g => (inD x y g).map fun b => .bl (!b)
/-! ### places -/
def ix (n : Nat) (i : Int) : Option Nat := if 0 ≤ i then (if i < n then some i.toNat else none) else if -(n : Int) ≤ i then some (i + n).toNat else none
def atI {α : Type} (xs : List α) (i : Int) : Option α := (ix xs.length i).bind fun j => xs[j]?
def oIdx : B2 := fun x y g => match x, y with
  | .str s, .int i => if s.length ≤ LINE then (atI s i).map fun c => .str [c] else none
  | .tup ds, .int i => atI ds i
  | .ref r, .int i => (lstOf (.ref r) g).bind fun xs => atI xs i
  | _, _ => none
/-- a slice's bound as a place among n (d where it is left out) -/
def sIx (n d : Nat) : Option Int → Nat
  | none => d
  | some v => if v < 0 then (v + (n : Int)).toNat else min v.toNat n
def cut {α : Type} (xs : List α) (lo hi : Option Int) : List α := (xs.drop (sIx xs.length 0 lo)).take (sIx xs.length xs.length hi - sIx xs.length 0 lo)
def oSl (x : D) (lo hi : Option Int) (g : G) : Option (D × G) := match x with
  | .str s => if s.length ≤ LINE then some (.str (cut s lo hi), g) else none
  | .tup ds => some (.tup (cut ds lo hi), g)
  | .ref r => (lstOf (.ref r) g).map fun xs => newL (cut xs lo hi) g
  | _ => none
def asI (d : D) : Option Int := match d with | .int i => some i | _ => none
def mIx : Option M → Env → G → R (Option Int)
  | none => fun _ g => .ok none g
  | some m => fun ρ g => (m ρ g).bind fun d g1 => (ofP (asI d) g1).bind fun i g2 => .ok (some i) g2
def mSl (a : M) (lo hi : Option M) : M := fun ρ g => (a ρ g).bind fun x g1 => (mIx lo ρ g1).bind fun l g2 => (mIx hi ρ g2).bind fun h g3 => ofO (oSl x l h g3)
/-! ### built-ins -/
inductive Ty where | int | bool | str | tuple | list
deriving DecidableEq
def tyOf (d : D) (g : G) : Option (Option Ty) := match d with
  | .non => some none
  | .bl _ => some (some .bool)
  | .int _ => some (some .int)
  | .str _ => some (some .str)
  | .tup _ => some (some .tuple)
  | .ref r => match g[r]? with | some (.lst _) => some (some .list) | some (.frz _) => some (some .list) | none => none
def isTy (t : Ty) : Option Ty → Bool
  | none => false
  | some u => u == t || (u == .bool && t == .int)
def oIsi (t : Ty) : B1 := fun x g => (tyOf x g).map fun u => .bl (isTy t u)
def oInt : B1 := fun x _ => match x with | .int i => some (.int i) | .bl b => some (.int (b2i b)) | _ => none
def lenD (d : D) (g : G) : Option Nat := match d with
  | .str s => if s.length ≤ LINE then some s.length else none
  | .tup ds => some ds.length
  | .ref r => (lstOf (.ref r) g).map (·.length)
  | _ => none
def oLen : B1 := fun x g => (lenD x g).map fun (n : Nat) => .int n
def oOrd : B1 := fun x _ => match x with | .str [c] => some (.int c.toNat) | _ => none
def oMin : B2 := fun x y _ => match x, y with | .int i, .int j => some (.int (if j < i then j else i)) | _, _ => none
def oMax : B2 := fun x y _ => match x, y with | .int i, .int j => some (.int (if j > i then j else i)) | _, _ => none
def allI : List D → Option (List Int)
  | [] => some []
  | .int i :: r => (allI r).map (i :: ·)
  | _ :: _ => none
def maxI : List Int → Option Int
  | [] => none
  | i :: r => match maxI r with | none => some i | some m => some (if i < m then m else i)
def minI : List Int → Option Int
  | [] => none
  | i :: r => match minI r with | none => some i | some m => some (if m < i then m else i)
def oMaxL : B1 := fun x g => ((seqOf x g).bind allI).bind fun is => (maxI is).map .int
def oMinL : B1 := fun x g => ((seqOf x g).bind allI).bind fun is => (minI is).map .int
def oTuple : N1 := fun x g => (seqOf x g).map fun xs => (.tup xs, g)
def oList : N1 := fun x g => (seqOf x g).map fun xs => newL xs g
/-! ### methods -/
def oAppend : N2 := fun x y g => match mutOf x g with | some (r, xs) => if xs.length < LINE then some (.non, g.set r (.lst (xs ++ [y]))) else none | none => none
/-- x.append(y): x is a list as soon as it is reckoned -/
def mApp (o e : M) : M := fun ρ g => (o ρ g).bind fun x g1 => if (lstOf x g1).isSome then (e ρ g1).bind fun y g2 => ofO (oAppend x y g2) else .bad
/-! ### what is walked -/
structure Iter where
  get : Nat → G → Option (Option D)
  n : Nat
def itL (ds : List D) : Iter := ⟨fun i _ => some ds[i]?, ds.length⟩
def itR (r : Nat) (n : Nat) : Iter := ⟨fun i g => (lstOf (.ref r) g).map fun xs => xs[i]?, n⟩
abbrev I := Env → G → R Iter
/-- a list, a tuple, a text -/
def iterOf (x : D) (g : G) : Option Iter := match x with
  | .tup ds => some (itL ds)
  | .str s => some (itL (s.map fun c => .str [c]))
  | .ref r => (lstOf (.ref r) g).map fun xs => itR r xs.length
  | _ => none
def iAny (a : M) : I := fun ρ g => (a ρ g).bind fun x g1 => ofP (iterOf x g1) g1
theorem small_is : ∃ n : Int, n = 4611686018427387904 := ⟨_, rfl⟩
/-- 2^62, kept shut -/
noncomputable def SMALL : Int := Classical.choose small_is
theorem SMALL_is : SMALL = 4611686018427387904 := Classical.choose_spec small_is
def rng (lo : Int) (n : Nat) : List D := (List.range n).map fun (k : Nat) => .int (lo + k)
noncomputable def iRange1 (a : M) : I := fun ρ g => (a ρ g).bind fun x g1 => match x with
  | .int j => if -SMALL ≤ j ∧ j < SMALL then .ok (itL (rng 0 j.toNat)) g1 else .bad
  | _ => .bad
noncomputable def iRange2 (a b : M) : I := fun ρ g => (a ρ g).bind fun x g1 => (b ρ g1).bind fun y g2 => match x, y with
  | .int i, .int j => if (-SMALL ≤ i ∧ i < SMALL) ∧ -SMALL ≤ j ∧ j < SMALL then .ok (itL (rng i (j - i).toNat)) g2 else .bad
  | _, _ => .bad
/-! ### targets -/
abbrev Tg := D → Env → Option Env
def gName (i : Nat) : Tg := fun d ρ => some (ρ.set i (some d))
abbrev Tgs := List D → Env → Option Env
def gNil : Tgs := fun ds ρ => match ds with | [] => some ρ | _ => none
def gCons (t : Tg) (u : Tgs) : Tgs := fun ds ρ => match ds with | d :: r => (t d ρ).bind (u r) | [] => none
def gTup (t : Tgs) : Tg := fun d ρ => match d with | .tup ds => t ds ρ | _ => none
/-! ### comprehensions -/
def wipe (ρ : Env) : List Nat → Env
  | [] => ρ
  | v :: vs => (wipe ρ vs).set v none
/-- the loop: ρ has its own names wiped; D the new list's place -/
def lcGo (it : Nat → G → Option (Option D)) (t : Tg) (c : T) (e : M) (ρ : Env) (r : Nat) : Nat → Nat → G → R D
  | 0, _, _ => .bad
  | n + 1, i, g => match it i g with
    | none => .bad
    | some none => .ok (.ref r) g
    | some (some d) => match t d ρ with
      | none => .bad
      | some ρ2 => match c ρ2 g with
        | .ok true g3 => match e ρ2 g3 with
          | .ok y g4 => match mutOf (.ref r) g4 with
            | some (_, xs) => if xs.length < LINE then lcGo it t c e ρ r n (i + 1) (g4.set r (.lst (xs ++ [y]))) else .bad
            | none => .bad
          | _ => .bad
        | .ok false g3 => lcGo it t c e ρ r n (i + 1) g3
        | _ => .bad
def mLc (w : I) (t : Tg) (c : T) (e : M) (own : List Nat) : M := fun ρ g => (w ρ g).bind fun it g1 =>
  lcGo it.get t c e (wipe ρ own) g1.length (it.n + 1) 0 (g1 ++ [.lst []])
/-! ### statements -/
def sSeq (a b : S) : S := fun ρ g => match a ρ g with | .next ρ1 g1 => b ρ1 g1 | r => r
def sNil : S := fun ρ g => .next ρ g
def sBreak : S := fun ρ g => .brk ρ g
def sCont : S := fun ρ g => .cont ρ g
/-- from an expression: what it is on its way out -/
def onR {α : Type} (r : R α) (ρ : Env) (k : α → G → SR) : SR := match r with | .ok a g => k a g | .exc e g => .exc e ρ g | .bad => .bad
def sExpr (e : M) : S := fun ρ g => onR (e ρ g) ρ fun _ g1 => .next ρ g1
def sRet (e : M) : S := fun ρ g => onR (e ρ g) ρ fun d g1 => .ret d g1
def sRetN : S := fun _ g => .ret .non g
def sIf (t : T) (a b : S) : S := fun ρ g => onR (t ρ g) ρ fun c g1 => if c then a ρ g1 else b ρ g1
def sAsg (e : M) (t : Tg) : S := fun ρ g => onR (e ρ g) ρ fun d g1 => match t d ρ with | some ρ1 => .next ρ1 g1 | none => .bad
/-- o[i] = e -/
def sSetI (o i e : M) : S := fun ρ g => onR (e ρ g) ρ fun v g1 => onR (o ρ g1) ρ fun x g2 => onR (i ρ g2) ρ fun k g3 => match mutOf x g3, asI k with
  | some (r, xs), some k => match ix xs.length k with | some j => .next ρ (g3.set r (.lst (xs.set j v))) | none => .bad
  | _, _ => .bad
def forGo (it : Nat → G → Option (Option D)) (t : Tg) (b : S) : Nat → Nat → S
  | 0, _ => fun _ _ => .bad
  | n + 1, i => fun ρ g => match it i g with
    | none => .bad
    | some none => .next ρ g
    | some (some d) => match t d ρ with
      | none => .bad
      | some ρ1 => match b ρ1 g with
        | .next ρ2 g2 => forGo it t b n (i + 1) ρ2 g2
        | .cont ρ2 g2 => forGo it t b n (i + 1) ρ2 g2
        | .brk ρ2 g2 => .next ρ2 g2
        | r => r
def sFor (w : I) (t : Tg) (b : S) : S := fun ρ g => onR (w ρ g) ρ fun it g1 => forGo it.get t b (it.n + 1) 0 ρ g1
/-! ### defs -/
def fn (n m : Nat) (b : S) : F := fun ds g => if ds.length = n then match b (ds.map some ++ List.replicate (m - n) none) g with
  | .next _ g1 => .ok .non g1
  | .ret d g1 => .ok d g1
  | .exc e _ g1 => .exc e g1
  | _ => .bad else .bad
end Py
end

section
set_option Elab.async false
set_option linter.all false
set_option maxRecDepth 100000
set_option autoImplicit false
/-! The small semantics over the hand layer: what a data tree is in the abstract heap, what a store is. -/
namespace Py
open PySem L2

def sS (s : List Char) : Str := ⟨(s.map Char.toNat).toArray⟩
mutual
inductive Rep (K : PySem.W.Frag) (H : Hp) (ι : List Addr) : D → V → Prop
  | non : Rep K H ι .non .non
  | bl (b : Bool) : Rep K H ι (.bl b) (.bl b)
  | int (i : Int) : Rep K H ι (.int i) (.int i)
  | str (s : List Char) : Rep K H ι (.str s) (.str (sS s))
  | tup {ds : List D} {vs : List V} {a : Addr} (h : SqT K H a vs) (r : Reps K H ι ds vs) : Rep K H ι (.tup ds) (.ref a)
  | ref {r : Nat} {a : Addr} (h : ι[r]? = some a) : Rep K H ι (.ref r) (.ref a)
inductive Reps (K : PySem.W.Frag) (H : Hp) (ι : List Addr) : List D → List V → Prop
  | nil : Reps K H ι [] []
  | cons {d : D} {v : V} {ds : List D} {vs : List V} (h : Rep K H ι d v) (t : Reps K H ι ds vs) : Reps K H ι (d :: ds) (v :: vs)
end
/-- a list that is only read -/
def FrzL (K : PySem.W.Frag) (H : Hp) (a : Addr) (xs : List V) : Prop :=
  (∃ o, H a = some (.frz o (.lst xs))) ∨
    (∃ (o : Obj) (its : Array Value) (n : Nat), K.lookup a = some o ∧ o.cls = .type "list" ∧ o.dict = none ∧ o.data = .seq its n ∧ its.size ≤ sizeLine ∧ Vals xs its.toList)
theorem FrzL.seq {K : PySem.W.Frag} {H : Hp} {a : Addr} {xs : List V} (h : FrzL K H a xs) : SqL K H a xs := by
  rcases h with ⟨o, h⟩ | h
  · exact .inl (.inr ⟨o, h⟩)
  · exact .inr h
/-- what object stands at a -/
def OR (K : PySem.W.Frag) (H : Hp) (ι : List Addr) : O → Addr → Prop
  | .lst xs, a => ∃ vs, H a = some (.lst vs) ∧ Reps K H ι xs vs
  | .frz xs, a => ∃ vs, FrzL K H a vs ∧ Reps K H ι xs vs
structure SR_ (K : PySem.W.Frag) (H : Hp) (ι : List Addr) (g : G) : Prop where
  len : ι.length = g.length
  obj : ∀ (r : Nat) (o : O) (a : Addr), g[r]? = some o → ι[r]? = some a → OR K H ι o a
  inj : ∀ (r r' : Nat) (a : Addr) (xs xs' : List D), ι[r]? = some a → ι[r']? = some a → g[r]? = some (.lst xs) → g[r']? = some (.lst xs') → r = r'
structure Ext (K : PySem.W.Frag) (H H' : Hp) (ι ι' : List Addr) : Prop where
  pre : ∀ (r : Nat) (a : Addr), ι[r]? = some a → ι'[r]? = some a
  tup : ∀ (a : Addr) (vs : List V), SqT K H a vs → SqT K H' a vs
section
variable {K : PySem.W.Frag} {H H' H2 : Hp} {ι ι' ι2 : List Addr}
theorem Ext.refl : Ext K H H ι ι := ⟨fun _ _ h => h, fun _ _ h => h⟩
theorem Ext.trans (x : Ext K H H' ι ι') (y : Ext K H' H2 ι' ι2) : Ext K H H2 ι ι2 := ⟨fun r a h => y.pre r a (x.pre r a h), fun a vs h => y.tup a vs (x.tup a vs h)⟩
mutual
theorem Rep.ext (x : Ext K H H' ι ι') : ∀ {d : D} {v : V}, Rep K H ι d v → Rep K H' ι' d v
  | _, _, .non => .non
  | _, _, .bl b => .bl b
  | _, _, .int i => .int i
  | _, _, .str s => .str s
  | _, _, .tup h r => .tup (x.tup _ _ h) (Reps.ext x r)
  | _, _, .ref h => .ref (x.pre _ _ h)
theorem Reps.ext (x : Ext K H H' ι ι') : ∀ {ds : List D} {vs : List V}, Reps K H ι ds vs → Reps K H' ι' ds vs
  | _, _, .nil => .nil
  | _, _, .cons h t => .cons (Rep.ext x h) (Reps.ext x t)
end
theorem Reps.len : ∀ {ds : List D} {vs : List V}, Reps K H ι ds vs → ds.length = vs.length
  | _, _, .nil => rfl
  | _, _, .cons _ t => by simp [Reps.len t]
theorem Reps.get : ∀ {ds : List D} {vs : List V} {i : Nat} {d : D}, Reps K H ι ds vs → ds[i]? = some d → ∃ v, vs[i]? = some v ∧ Rep K H ι d v
  | _, _, _, _, .nil, e => by simp at e
  | _, _, 0, _, .cons h _, e => by simp at e; subst e; exact ⟨_, rfl, h⟩
  | _, _, i + 1, d, .cons _ t, e => by
    obtain ⟨v, h1, h2⟩ := Reps.get (i := i) t (by simpa using e)
    exact ⟨v, by simpa using h1, h2⟩
theorem Reps.get' : ∀ {ds : List D} {vs : List V} {i : Nat} {v : V}, Reps K H ι ds vs → vs[i]? = some v → ∃ d, ds[i]? = some d ∧ Rep K H ι d v
  | _, _, _, _, .nil, e => by simp at e
  | _, _, 0, _, .cons h _, e => by simp at e; subst e; exact ⟨_, rfl, h⟩
  | _, _, i + 1, d, .cons _ t, e => by
    obtain ⟨v, h1, h2⟩ := Reps.get' (i := i) t (by simpa using e)
    exact ⟨v, by simpa using h1, h2⟩
theorem Reps.append : ∀ {ds es : List D} {vs ws : List V}, Reps K H ι ds vs → Reps K H ι es ws → Reps K H ι (ds ++ es) (vs ++ ws)
  | _, _, _, _, .nil, s => s
  | _, _, _, _, .cons h t, s => .cons h (Reps.append t s)
theorem Reps.take : ∀ {ds : List D} {vs : List V} (n : Nat), Reps K H ι ds vs → Reps K H ι (ds.take n) (vs.take n)
  | _, _, 0, _ => .nil
  | _, _, _ + 1, .nil => .nil
  | _, _, n + 1, .cons h t => .cons h (Reps.take n t)
theorem Reps.drop : ∀ {ds : List D} {vs : List V} (n : Nat), Reps K H ι ds vs → Reps K H ι (ds.drop n) (vs.drop n)
  | _, _, 0, r => r
  | _, _, _ + 1, .nil => .nil
  | _, _, n + 1, .cons _ t => Reps.drop n t
theorem Reps.set {d : D} {v : V} (r : Rep K H ι d v) : ∀ {ds : List D} {vs : List V} (n : Nat), Reps K H ι ds vs → Reps K H ι (ds.set n d) (vs.set n v)
  | _, _, _, .nil => .nil
  | _, _, 0, .cons _ t => .cons r t
  | _, _, n + 1, .cons h t => .cons h (Reps.set r n t)
theorem Reps.rev : ∀ {ds : List D} {vs : List V}, Reps K H ι ds vs → Reps K H ι ds.reverse vs.reverse
  | _, _, .nil => .nil
  | _, _, .cons h t => by rw [List.reverse_cons, List.reverse_cons]; exact Reps.append (Reps.rev t) (.cons h .nil)
theorem Reps.ints : ∀ {is : List Int}, Reps K H ι (is.map D.int) (is.map V.int)
  | [] => .nil
  | i :: r => .cons (.int i) (Reps.ints (is := r))
theorem Reps.strs : ∀ {is : List (List Char)}, Reps K H ι (is.map D.str) (is.map fun s => V.str (sS s))
  | [] => .nil
  | i :: r => .cons (.str i) (Reps.strs (is := r))
/-- the heap grows by a new object -/
theorem SqT.new {a p : Addr} {vs : List V} {o : HO} (hp : H p = none) (h : SqT K H a vs) : SqT K (upd H p o) a vs := by
  rcases h with (h | ⟨u, h⟩) | h
  · exact .inl (.inl (by rw [upd_ne (ne_of_none h hp)]; exact h))
  · exact .inl (.inr ⟨u, by rw [upd_ne (ne_of_none h hp)]; exact h⟩)
  · exact .inr h
theorem SqT.wr {a p : Addr} {vs : List V} {o : HO} {xs : List V} (hp : H p = some (.lst xs)) (h : SqT K H a vs) : SqT K (upd H p o) a vs := by
  rcases h with (h | ⟨u, h⟩) | h
  · exact .inl (.inl (by rw [upd_ne (ne_of h hp (by intro z; cases z))]; exact h))
  · exact .inl (.inr ⟨u, by rw [upd_ne (ne_of h hp (by intro z; cases z))]; exact h⟩)
  · exact .inr h
theorem Ext.new {p : Addr} {o : HO} (hp : H p = none) : Ext K H (upd H p o) ι ι := ⟨fun _ _ h => h, fun _ _ h => SqT.new hp h⟩
theorem Ext.wr {p : Addr} {o : HO} {xs : List V} (hp : H p = some (.lst xs)) : Ext K H (upd H p o) ι ι := ⟨fun _ _ h => h, fun _ _ h => SqT.wr hp h⟩
theorem Ext.snoc {p : Addr} : Ext K H H ι (ι ++ [p]) := ⟨fun r a h => by
  rw [List.getElem?_append_left (by exact (List.getElem?_eq_some_iff.mp h).1)]; exact h, fun _ _ h => h⟩
theorem FrzL.new {a p : Addr} {vs : List V} (hp : H p = none) (h : FrzL K H a vs) {o : HO} : FrzL K (upd H p o) a vs := by
  rcases h with ⟨u, h⟩ | h
  · exact .inl ⟨u, by rw [upd_ne (ne_of_none h hp)]; exact h⟩
  · exact .inr h
theorem FrzL.wr {a p : Addr} {vs xs : List V} (hp : H p = some (.lst xs)) (h : FrzL K H a vs) {o : HO} : FrzL K (upd H p o) a vs := by
  rcases h with ⟨u, h⟩ | h
  · exact .inl ⟨u, by rw [upd_ne (ne_of h hp (by intro z; cases z))]; exact h⟩
  · exact .inr h
theorem OR.new {a p : Addr} {o : HO} {x : O} (hp : H p = none) (h : OR K H ι x a) : OR K (upd H p o) ι x a := by
  cases x with
  | lst xs => obtain ⟨vs, h, r⟩ := h; exact ⟨vs, by rw [upd_ne (ne_of_none h hp)]; exact h, r.ext (Ext.new hp)⟩
  | frz xs => obtain ⟨vs, h, r⟩ := h; exact ⟨vs, h.new hp, r.ext (Ext.new hp)⟩
theorem OR.wr {a p : Addr} {xs : List V} {o : HO} {x : O} (hp : H p = some (.lst xs)) (hne : a ≠ p ∨ ∃ ys, x = .frz ys) (h : OR K H ι x a) : OR K (upd H p o) ι x a := by
  cases x with
  | lst xs =>
    obtain ⟨vs, h, r⟩ := h
    rcases hne with hne | ⟨ys, z⟩
    · exact ⟨vs, by rw [upd_ne hne]; exact h, r.ext (Ext.wr hp)⟩
    · cases z
  | frz xs => obtain ⟨vs, h, r⟩ := h; exact ⟨vs, h.wr hp, r.ext (Ext.wr hp)⟩
theorem OR.ext {x : O} {a : Addr} (h : OR K H ι x a) (e : Ext K H H ι ι') : OR K H ι' x a := by
  cases x with
  | lst xs => obtain ⟨vs, h, r⟩ := h; exact ⟨vs, h, r.ext e⟩
  | frz xs => obtain ⟨vs, h, r⟩ := h; exact ⟨vs, h, r.ext e⟩
variable {g : G}
/-- an object that the store does not know -/
theorem SR_.new {p : Addr} {o : HO} (s : SR_ K H ι g) (hp : H p = none) : SR_ K (upd H p o) ι g := ⟨s.len, fun r x a h1 h2 => (s.obj r x a h1 h2).new hp, s.inj⟩
/-- a new list -/
theorem SR_.newL {p : Addr} {ds : List D} {vs : List V} (s : SR_ K H ι g) (hp : H p = none) (r : Reps K H ι ds vs) : SR_ K (upd H p (.lst vs)) (ι ++ [p]) (g ++ [.lst ds]) := by
  have e1 : Ext K (upd H p (.lst vs)) (upd H p (.lst vs)) ι (ι ++ [p]) := Ext.snoc
  have isP : ∀ (r : Nat) (a : Addr) (xs : List D), ι[r]? = some a → g[r]? = some (.lst xs) → a ≠ p := fun r a xs h1 h2 z => by
    obtain ⟨vs, h, _⟩ := s.obj r _ a h2 h1
    rw [z, hp] at h; cases h
  refine ⟨by simp [s.len], fun q x a h1 h2 => ?_, fun q q' a xs xs' h1 h2 h3 h4 => ?_⟩
  · by_cases hq : q < g.length
    · rw [List.getElem?_append_left hq] at h1
      rw [List.getElem?_append_left (by rw [s.len]; exact hq)] at h2
      exact ((s.obj q x a h1 h2).new hp).ext e1
    · have hl := (List.getElem?_eq_some_iff.mp h1).1
      have e : q = g.length := by simp at hl; omega
      subst e
      rw [List.getElem?_append_right (Nat.le_refl _), Nat.sub_self] at h1
      rw [← s.len, List.getElem?_append_right (Nat.le_refl _), Nat.sub_self] at h2
      simp at h1 h2
      subst h1 h2
      exact ⟨vs, upd_same, (r.ext (Ext.new hp)).ext e1⟩
  · have low : ∀ (q : Nat) (xs : List D), (ι ++ [p])[q]? = some a → (g ++ [O.lst ds])[q]? = some (.lst xs) → (ι[q]? = some a ∧ g[q]? = some (.lst xs)) ∨ (q = g.length ∧ a = p) := fun q xs h1 h3 => by
      by_cases hq : q < g.length
      · rw [List.getElem?_append_left hq] at h3
        rw [List.getElem?_append_left (by rw [s.len]; exact hq)] at h1
        exact .inl ⟨h1, h3⟩
      · have hl := (List.getElem?_eq_some_iff.mp h3).1
        have e : q = g.length := by simp at hl; omega
        subst e
        rw [← s.len, List.getElem?_append_right (Nat.le_refl _), Nat.sub_self] at h1
        simp at h1
        exact .inr ⟨rfl, h1.symm⟩
    rcases low q xs h1 h3 with ⟨a1, a3⟩ | ⟨e1, e2⟩
    · rcases low q' xs' h2 h4 with ⟨b1, b3⟩ | ⟨e1, e2⟩
      · exact s.inj q q' a xs xs' a1 b1 a3 b3
      · exact absurd e2 (isP q a xs a1 a3)
    · rcases low q' xs' h2 h4 with ⟨b1, b3⟩ | ⟨e1', e2'⟩
      · exact absurd e2 (isP q' a xs' b1 b3)
      · rw [e1, e1']
/-- a list is written -/
theorem SR_.wrL {l : Nat} {p : Addr} {xs ds : List D} {ws vs : List V} (s : SR_ K H ι g) (hl : g[l]? = some (.lst xs)) (hp : ι[l]? = some p) (r : Reps K H ι ds vs) (hH : H p = some (.lst ws)) : SR_ K (upd H p (.lst vs)) ι (g.set l (.lst ds)) := by
  have hlen : l < g.length := (List.getElem?_eq_some_iff.mp hl).1
  refine ⟨by simp [s.len], fun q x a h1 h2 => ?_, fun q q' a ys ys' h1 h2 h3 h4 => ?_⟩
  · by_cases hq : q = l
    · subst hq
      rw [List.getElem?_set_self hlen] at h1
      rw [hp] at h2
      cases h1; cases h2
      exact ⟨vs, upd_same, r.ext (Ext.wr hH)⟩
    · rw [List.getElem?_set_ne (Ne.symm hq)] at h1
      refine (s.obj q x a h1 h2).wr hH ?_
      cases x with
      | lst ys =>
        left
        intro z
        subst z
        exact hq (s.inj q l a ys xs h2 hp h1 hl)
      | frz ys => exact .inr ⟨ys, rfl⟩
  · have low : ∀ (q : Nat) (ys : List D), (g.set l (.lst ds))[q]? = some (.lst ys) → ∃ zs, g[q]? = some (.lst zs) := fun q ys h => by
      by_cases hq : q = l
      · subst hq; exact ⟨_, hl⟩
      · rw [List.getElem?_set_ne (Ne.symm hq)] at h; exact ⟨_, h⟩
    obtain ⟨zs, k1⟩ := low q ys h3
    obtain ⟨zs', k2⟩ := low q' ys' h4
    exact s.inj q q' a zs zs' h1 h2 k1 k2
/-- what stands at a list's reference -/
theorem SR_.lst {r : Nat} {a : Addr} {xs : List D} (s : SR_ K H ι g) (h : ι[r]? = some a) (hg : g[r]? = some (.lst xs)) : ∃ vs, H a = some (.lst vs) ∧ Reps K H ι xs vs := s.obj r _ a hg h
theorem SR_.frz {r : Nat} {a : Addr} {xs : List D} (s : SR_ K H ι g) (h : ι[r]? = some a) (hg : g[r]? = some (.frz xs)) : ∃ vs, FrzL K H a vs ∧ Reps K H ι xs vs := s.obj r _ a hg h
/-- a list or a tuple, by its items -/
theorem SR_.seq {d : D} {v : V} {xs : List D} (s : SR_ K H ι g) (r : Rep K H ι d v) (h : seqOf d g = some xs) : ∃ a vs, v = .ref a ∧ (SqL K H a vs ∨ SqT K H a vs) ∧ Reps K H ι xs vs := by
  cases r with
  | tup ht hr =>
    unfold seqOf at h
    cases h
    exact ⟨_, _, rfl, .inr ht, hr⟩
  | @ref r a ha =>
    unfold seqOf at h
    dsimp only at h
    split at h
    · rename_i ys e; cases h; obtain ⟨vs, h1, h2⟩ := s.lst ha e; exact ⟨a, vs, rfl, .inl (SqL.of h1), h2⟩
    · rename_i ys e; cases h; obtain ⟨vs, h1, h2⟩ := s.frz ha e; exact ⟨a, vs, rfl, .inl h1.seq, h2⟩
    · cases h
  | _ => cases h
theorem SR_.list {d : D} {v : V} {xs : List D} (s : SR_ K H ι g) (r : Rep K H ι d v) (h : lstOf d g = some xs) : ∃ a vs, v = .ref a ∧ SqL K H a vs ∧ Reps K H ι xs vs := by
  cases r with
  | @ref r a ha =>
    unfold lstOf at h
    dsimp only at h
    split at h
    · rename_i ys e; cases h; obtain ⟨vs, h1, h2⟩ := s.lst ha e; exact ⟨a, vs, rfl, SqL.of h1, h2⟩
    · rename_i ys e; cases h; obtain ⟨vs, h1, h2⟩ := s.frz ha e; exact ⟨a, vs, rfl, h1.seq, h2⟩
    · cases h
  | _ => cases h
/-! ### environments -/
structure ER (K : PySem.W.Frag) (H : Hp) (ι : List Addr) (ρ : Env) (σ : St) : Prop where
  len : ρ.length = σ.length
  at_ : ∀ (i : Nat) (d : D), ρ[i]? = some (some d) → ∃ v, σ[i]? = some (some v) ∧ Rep K H ι d v
variable {ρ : Env} {σ : St}
theorem ER.ext (e : ER K H ι ρ σ) (x : Ext K H H' ι ι') : ER K H' ι' ρ σ := ⟨e.len, fun i d h => let ⟨v, h1, h2⟩ := e.at_ i d h; ⟨v, h1, h2.ext x⟩⟩
theorem ER.set {d : D} {v : V} (e : ER K H ι ρ σ) (r : Rep K H ι d v) (i : Nat) : ER K H ι (ρ.set i (some d)) (σ.set i (some v)) := by
  refine ⟨by simp [e.len], fun j d' h => ?_⟩
  by_cases hj : j = i
  · subst hj
    have hl : j < ρ.length := by have := (List.getElem?_eq_some_iff.mp h).1; simpa using this
    rw [List.getElem?_set_self hl] at h
    cases h
    exact ⟨v, List.getElem?_set_self (by rw [← e.len]; exact hl), r⟩
  · rw [List.getElem?_set_ne (Ne.symm hj)] at h
    obtain ⟨v', h1, h2⟩ := e.at_ j d' h
    exact ⟨v', by rw [List.getElem?_set_ne (Ne.symm hj)]; exact h1, h2⟩
end
end Py
end

section
set_option Elab.async false
set_option linter.all false
set_option maxRecDepth 100000
set_option autoImplicit false
/-! Soundness of the expressions. -/
namespace Py
open PySem L2

theorem line_eq : sizeLine = LINE := by decide
/-- an exception as an object -/
def ExcR (mg : Str → Option Value) (K : PySem.W.Frag) (H : Hp) (ι : List Addr) (e : Exc) (cls : Value) (dx : Option Addr) : Prop :=
  mg (Str.ofString e.cls) = some cls ∧ (e.fs ≠ [] → ∃ a vs, dx = some a ∧ H a = some (.xd vs) ∧ ∀ f d, e.fs.lookup f = some d → ∃ v, vs.lookup (Str.ofString f) = some v ∧ Rep K H ι d v)
section
variable {α β : Type} (K : PySem.W.Frag) (mg : Str → Option Value)
def Post (W : WX) (σ : St) (H : Hp) (ι : List Addr) (r : R α) (k : α → G → Hp → List Addr → Prop) : Prop := match r with
  | .ok a g => ∀ H' ι', Ext K H H' ι ι' → SR_ K H' ι' g → k a g H' ι'
  | .exc e g => ∀ cls dx H' ι', Ext K H H' ι ι' → SR_ K H' ι' g → ExcR mg K H' ι' e cls dx → W cls dx σ H'
  | .bad => False
def W0 : WX := fun _ _ _ _ => False
/-- an expression's reading -/
def tE (W : WX) (m : M) : TE := fun σ H Q => ∃ ρ g ι, ER K H ι ρ σ ∧ SR_ K H ι g ∧ Post K mg W σ H ι (m ρ g) fun d _ H' ι' => ∀ v, Rep K H' ι' d v → Q v H'
/-- a test's -/
def tT (W : WX) (t : T) : TT := fun σ H Q => ∃ ρ g ι, ER K H ι ρ σ ∧ SR_ K H ι g ∧ Post K mg W σ H ι (t ρ g) fun b _ H' _ => Q b H'
/-- an argument list's -/
def tA (W : WX) (a : A) : TA := fun σ H Q => ∃ ρ g ι, ER K H ι ρ σ ∧ SR_ K H ι g ∧ Post K mg W σ H ι (a ρ g) fun ds _ H' ι' => ∀ vs, Reps K H' ι' ds vs → Q vs H'
variable {K mg} {W : WX} {σ : St} {H H' : Hp} {ι ι' : List Addr}
theorem Post.ext {r : R α} {k : α → G → Hp → List Addr → Prop} (x : Ext K H H' ι ι') (p : Post K mg W σ H ι r k) : Post K mg W σ H' ι' r k := by
  cases r with
  | ok a g => exact fun H2 ι2 y s => p H2 ι2 (x.trans y) s
  | exc e g => exact fun cls dx H2 ι2 y s z => p cls dx H2 ι2 (x.trans y) s z
  | bad => exact p
theorem Post.imp {r : R α} {k k' : α → G → Hp → List Addr → Prop} (p : Post K mg W σ H ι r k) (h : ∀ a g H' ι', r = .ok a g → Ext K H H' ι ι' → SR_ K H' ι' g → k a g H' ι' → k' a g H' ι') : Post K mg W σ H ι r k' := by
  cases r with
  | ok a g => exact fun H2 ι2 y s => h _ _ _ _ rfl y s (p H2 ι2 y s)
  | exc e g => exact p
  | bad => exact p
theorem Post.bind {r : R α} {f : α → G → R β} {k : β → G → Hp → List Addr → Prop} (p : Post K mg W σ H ι (r.bind f) k) : Post K mg W σ H ι r fun a g H' ι' => Post K mg W σ H' ι' (f a g) k := by
  cases r with
  | ok a g => exact fun H2 ι2 y s => Post.ext y p
  | exc e g => exact p
  | bad => exact p
/-- a pure step -/
theorem Post.ofP {o : Option α} {g : G} {k : α → G → Hp → List Addr → Prop} (s : SR_ K H ι g) (p : Post K mg W σ H ι (ofP o g) k) : ∃ a, o = some a ∧ k a g H ι := by
  cases o with
  | none => exact p.elim
  | some a => exact ⟨a, rfl, p H ι Ext.refl s⟩
theorem Post.ofP' {o : Option α} {f : α → G → R β} {g : G} {k : β → G → Hp → List Addr → Prop} (p : Post K mg W σ H ι ((Py.ofP o g).bind f) k) : ∃ a, o = some a ∧ Post K mg W σ H ι (f a g) k := by
  cases o with
  | none => exact p.elim
  | some a => exact ⟨a, rfl, p⟩
theorem Post.ok {a : α} {g : G} {k : α → G → Hp → List Addr → Prop} (s : SR_ K H ι g) (p : Post K mg W σ H ι (.ok a g) k) : k a g H ι := p H ι Ext.refl s
theorem Post.ofO {o : Option (α × G)} {k : α → G → Hp → List Addr → Prop} (p : Post K mg W σ H ι (ofO o) k) : ∃ a g, o = some (a, g) ∧ ∀ H' ι', Ext K H H' ι ι' → SR_ K H' ι' g → k a g H' ι' := by
  rcases o with _ | ⟨a, g⟩
  · exact p.elim
  · exact ⟨a, g, rfl, p⟩
end

section
variable {X : Cx} {W : WX}
theorem _root_.L2.PE.mono {e : Expr} {t t' : TE} (h : PE X e t) (i : ∀ σ H Q, t' σ H Q → t σ H Q) : PE X e t' := ⟨fun pins s σ H Q I q => h.run pins s σ H Q I (i σ H Q q)⟩
theorem _root_.L2.PT.mono {e : Expr} {t t' : TT} (h : PT X e t) (i : ∀ σ H Q, t' σ H Q → t σ H Q) : PT X e t' := ⟨fun pins s σ H Q I q => h.run pins s σ H Q I (i σ H Q q)⟩
theorem _root_.L2.PW.mono {e : Expr} {t t' : TT} (h : PW X e t) (i : ∀ σ H Q, t' σ H Q → t σ H Q) : PW X e t' := ⟨fun w pins s σ H Q I q => h.run w pins s σ H Q I (i σ H Q q)⟩
theorem _root_.L2.PA.mono {e : List Expr} {t t' : TA} (h : PA X e t) (i : ∀ σ H Q, t' σ H Q → t σ H Q) : PA X e t' := ⟨fun p pins s σ H Q I q => h.run p pins s σ H Q I (i σ H Q q)⟩
theorem _root_.L2.PS.mono {e : Stmt} {t t' : TS} (h : PS X e t) (i : ∀ D σ H, t' D σ H → t D σ H) : PS X e t' := ⟨fun pins s σ H D I q => h.run pins s σ H D I (i D σ H q)⟩
theorem _root_.L2.PSs.mono {e : List Stmt} {t t' : TS} (h : PSs X e t) (i : ∀ D σ H, t' D σ H → t D σ H) : PSs X e t' := ⟨fun pins s σ H D I q => h.run pins s σ H D I (i D σ H q)⟩
theorem _root_.L2.PI.mono {tg e : Expr} {t t' : TI} (h : PI X tg e t) (i : ∀ σ H R, t' σ H R → t σ H R) : PI X tg e t' := ⟨fun pins s σ H R I q => h.run pins s σ H R I (i σ H R q)⟩

abbrev EE (X : Cx) (W : WX) (e : Expr) (m : M) : Prop := PE X e (tE X.K X.mg W m)
abbrev TTt (X : Cx) (W : WX) (e : Expr) (t : T) : Prop := PT X e (tT X.K X.mg W t)
abbrev AA (X : Cx) (W : WX) (es : List Expr) (a : A) : Prop := PA X es (tA X.K X.mg W a)
variable {a b c e : Expr} {es : List Expr} {pos : Pos} {ma mb mc m : M} {as : A}

/-! ### names, constants -/
theorem e_var (i : Nat) {x : Str} {pos : Pos} (hN : X.N[i]? = some x := by rfl) (hv : Vis X.env.scope x := by first | exact Or.inl rfl | exact Or.inr (Or.inl rfl) | exact Or.inr (Or.inr rfl)) (hd : (x == ("__debug__" : Str)) = false := by decide)
    (hcd : (x == ("__classdict__" : Str)) = false := by decide) : EE X W (.Name x pos) (mVar i) := (pe_var hN hv hd hcd).mono fun σ H Q ⟨ρ, g, ι, er, s, p⟩ => by
  unfold mVar at p
  cases h : ρ[i]? with
  | none => rw [h] at p; exact p.elim
  | some o =>
    cases o with
    | none => rw [h] at p; exact p.elim
    | some d =>
      rw [h] at p
      obtain ⟨v, h1, h2⟩ := er.at_ i d h
      exact ⟨v, h1, p.ok s v h2⟩
theorem e_C {d : D} {v : V} {e : Expr} (h : PE X e (tC v)) (r : ∀ H ι, Rep X.K H ι d v) : EE X W e (mC d) := h.mono fun σ H Q ⟨ρ, g, ι, er, s, p⟩ => p.ok s v (r H ι)
theorem e_int {i j pos} : EE X W (.Constant (.int i) j pos) (mC (.int i)) := e_C pe_int fun _ _ => .int i
theorem e_bl {i j pos} : EE X W (.Constant (.bool i) j pos) (mC (.bl i)) := e_C pe_bl fun _ _ => .bl i
theorem e_non {j pos} : EE X W (.Constant .none j pos) (mC .non) := e_C pe_non fun _ _ => .non
theorem sS_of (s : String) : Str.ofString s = sS s.toList := Str.ofString_eq_toList s
theorem e_str {x : Str} {s : List Char} {j pos} (h : x = sS s) : EE X W (.Constant (.str x) j pos) (mC (.str s)) := e_C pe_str fun H ι => by
  rw [h]; exact .str _
/-- a module's number -/
theorem e_gint {x : Str} {i : Int} {t : Tok} {pos : Pos} (hm : X.mg x = some (.int i t)) (hg : Gl X x := by rfl) (hd : (x == ("__debug__" : Str)) = false := by decide) : EE X W (.Name x pos) (mC (.int i)) :=
  e_C (pe_glob (v := .int i) hg hm ⟨t, rfl⟩ hd) fun _ _ => .int i
theorem e_gstr {x : Str} {s : List Char} {t : Tok} {pos : Pos} (hm : X.mg x = some (.str (sS s) t)) (hg : Gl X x := by rfl) (hd : (x == ("__debug__" : Str)) = false := by decide) : EE X W (.Name x pos) (mC (.str s)) :=
  e_C (pe_glob (v := .str (sS s)) hg hm ⟨t, rfl⟩ hd) fun _ _ => .str s

theorem e_gint' {x : Str} {i : Int} {pos : Pos} (h : ∃ t, X.mg x = some (.int i t)) (hg : Gl X x := by rfl) (hd : (x == ("__debug__" : Str)) = false := by decide) : EE X W (.Name x pos) (mC (.int i)) := h.elim fun _ hm => e_gint hm hg hd
theorem e_gstr' {x : Str} {s : List Char} {pos : Pos} (h : ∃ t, X.mg x = some (.str (sS s) t)) (hg : Gl X x := by rfl) (hd : (x == ("__debug__" : Str)) = false := by decide) : EE X W (.Name x pos) (mC (.str s)) := h.elim fun _ hm => e_gstr hm hg hd
/-! ### operators -/
def rD (K : PySem.W.Frag) (f : N2) : R2 := fun x y H Q => ∃ d1 d2 g ι, SR_ K H ι g ∧ Rep K H ι d1 x ∧ Rep K H ι d2 y ∧ ∃ d g', f d1 d2 g = some (d, g') ∧ ∀ v H' ι', Ext K H H' ι ι' → SR_ K H' ι' g' → Rep K H' ι' d v → Q v H'
def rD1 (K : PySem.W.Frag) (f : N1) (x : V) (H : Hp) (Q : VK) : Prop := ∃ d1 g ι, SR_ K H ι g ∧ Rep K H ι d1 x ∧ ∃ d g', f d1 g = some (d, g') ∧ ∀ v H' ι', Ext K H H' ι ι' → SR_ K H' ι' g' → Rep K H' ι' d v → Q v H'
theorem two {K mg} {ma mb : M} {f : N2} {σ : St} {H : Hp} {Q : VK} (h : tE K mg W (mOp f ma mb) σ H Q) : tE K mg W ma σ H fun x H1 => tE K mg W mb σ H1 fun y H2 => rD K f x y H2 Q := by
  obtain ⟨ρ, g, ι, er, s, p⟩ := h
  refine ⟨ρ, g, ι, er, s, (Post.bind p).imp fun d1 g1 H1 ι1 _ x1 s1 p1 v1 r1 => ⟨ρ, g1, ι1, er.ext x1, s1, (Post.bind p1).imp fun d2 g2 H2 ι2 _ x2 s2 p2 v2 r2 => ?_⟩⟩
  obtain ⟨d, g', e1, k⟩ := p2.ofO
  exact ⟨d1, d2, g2, ι2, s2, r1.ext x2, r2, d, g', e1, fun v H' ι' x s' r => k H' ι' x s' v r⟩
theorem one {K mg} {ma : M} {f : N1} {σ : St} {H : Hp} {Q : VK} (h : tE K mg W (mUn f ma) σ H Q) : tE K mg W ma σ H fun x H1 => rD1 K f x H1 Q := by
  obtain ⟨ρ, g, ι, er, s, p⟩ := h
  refine ⟨ρ, g, ι, er, s, (Post.bind p).imp fun d1 g1 H1 ι1 _ x1 s1 p1 v1 r1 => ?_⟩
  obtain ⟨d, g', e1, k⟩ := p1.ofO
  exact ⟨d1, g1, ι1, s1, r1, d, g', e1, fun v H' ι' x s' r => k H' ι' x s' v r⟩
theorem e_op {op : Operator} {f : N2} (ho : OpR X (binaryOp op) (rD X.K f)) (ha : EE X W a ma) (hb : EE X W b mb) : EE X W (.BinOp a op b pos) (mOp f ma mb) := (pe_op ho ha hb).mono fun _ _ _ h => two h
theorem e_cmp {op : CmpOp} {f : B2} (ho : OpR X (compareOp op) (rD X.K (p2 f))) (ha : EE X W a ma) (hb : EE X W b mb) (hm : behindInMarks op b = false := by rfl) : EE X W (.Compare a [op] [b] pos) (mOp (p2 f) ma mb) :=
  (pe_cmpR ho ha hb hm).mono fun _ _ _ h => two h
theorem e_un {op : UnaryOp} {f : N1} (ho : UnR X (unaryOp op) (rD1 X.K f)) (ha : EE X W a ma) : EE X W (.UnaryOp op a pos) (mUn f ma) := (pe_un ho ha).mono fun _ _ _ h => one h
theorem rD.pure {K} {f : B2} {x y : V} {H : Hp} {Q : VK} (h : rD K (p2 f) x y H Q) : ∃ d1 d2 g ι, SR_ K H ι g ∧ Rep K H ι d1 x ∧ Rep K H ι d2 y ∧ ∃ d, f d1 d2 g = some d ∧ ∀ v, Rep K H ι d v → Q v H := by
  obtain ⟨d1, d2, g, ι, s, r1, r2, d, g', e, k⟩ := h
  unfold p2 at e
  cases h1 : f d1 d2 g with
  | none => rw [h1] at e; cases e
  | some d' => rw [h1] at e; cases e; exact ⟨d1, d2, g, ι, s, r1, r2, _, h1, fun v r => k v H ι Ext.refl s r⟩
theorem rD1.pure {K} {f : B1} {x : V} {H : Hp} {Q : VK} (h : rD1 K (p1 f) x H Q) : ∃ d1 g ι, SR_ K H ι g ∧ Rep K H ι d1 x ∧ ∃ d, f d1 g = some d ∧ ∀ v, Rep K H ι d v → Q v H := by
  obtain ⟨d1, g, ι, s, r1, d, g', e, k⟩ := h
  unfold p1 at e
  cases h1 : f d1 g with
  | none => rw [h1] at e; cases e
  | some d' => rw [h1] at e; cases e; exact ⟨d1, g, ι, s, r1, _, h1, fun v r => k v H ι Ext.refl s r⟩

/-! ### and, or, not, if as values -/
theorem asB_some {d : D} {c : Bool} (h : asB d = some c) : d = .bl c := by
  cases d <;> simp [asB] at h
  rw [h]
theorem asI_some {d : D} {c : Int} (h : asI d = some c) : d = .int c := by
  cases d <;> simp [asI] at h
  rw [h]
theorem Rep.bl_inv {K H ι} {c : Bool} {v : V} (r : Rep K H ι (.bl c) v) : v = .bl c := by cases r; rfl
theorem Rep.int_inv {K H ι} {c : Int} {v : V} (r : Rep K H ι (.int c) v) : v = .int c := by cases r; rfl
theorem Rep.str_inv {K H ι} {c : List Char} {v : V} (r : Rep K H ι (.str c) v) : v = .str (sS c) := by cases r; rfl
theorem Rep.non_inv {K H ι} {v : V} (r : Rep K H ι .non v) : v = .non := by cases r; rfl
variable {op : PySem.BoolOp} {rest : List Expr}
theorem e_one (h : EE X W a m) : EE X W (.BoolOp op [a] pos) m := pe_one h
theorem e_and (ha : EE X W a ma) (hb : EE X W (.BoolOp .And (b :: rest) pos) mb) : EE X W (.BoolOp .And (a :: b :: rest) pos) (mAnd ma mb) := (pe_and ha hb).mono fun σ H Q ⟨ρ, g, ι, er, s, p⟩ => by
  refine ⟨ρ, g, ι, er, s, (Post.bind p).imp fun d1 g1 H1 ι1 _ x1 s1 p1 v1 r1 => ?_⟩
  obtain ⟨c, hc, p1⟩ := Post.ofP' p1
  cases asB_some hc
  cases r1
  refine ⟨c, rfl, ?_⟩
  cases c with
  | true => exact ⟨ρ, g1, ι1, er.ext x1, s1, p1⟩
  | false => exact p1.ok s1 _ (.bl false)
theorem e_or (ha : EE X W a ma) (hb : EE X W (.BoolOp .Or (b :: rest) pos) mb) : EE X W (.BoolOp .Or (a :: b :: rest) pos) (mOr ma mb) := (pe_or ha hb).mono fun σ H Q ⟨ρ, g, ι, er, s, p⟩ => by
  refine ⟨ρ, g, ι, er, s, (Post.bind p).imp fun d1 g1 H1 ι1 _ x1 s1 p1 v1 r1 => ?_⟩
  obtain ⟨c, hc, p1⟩ := Post.ofP' p1
  cases asB_some hc
  cases r1
  refine ⟨c, rfl, ?_⟩
  cases c with
  | false => exact ⟨ρ, g1, ι1, er.ext x1, s1, p1⟩
  | true => exact p1.ok s1 _ (.bl true)
theorem e_not (ha : EE X W a ma) : EE X W (.UnaryOp .Not a pos) (mNot ma) := (pe_not ha).mono fun σ H Q ⟨ρ, g, ι, er, s, p⟩ => by
  refine ⟨ρ, g, ι, er, s, (Post.bind p).imp fun d1 g1 H1 ι1 _ x1 s1 p1 v1 r1 => ?_⟩
  obtain ⟨c, hc, p1⟩ := Post.ofP' p1
  cases asB_some hc
  cases r1
  exact ⟨c, rfl, p1.ok s1 _ (.bl _)⟩
variable {t u : T}
theorem e_if (hc : TTt X W c t) (ha : EE X W a ma) (hb : EE X W b mb) : EE X W (.IfExp c a b pos) (mIf t ma mb) := (pe_ifExp hc ha hb).mono fun σ H Q ⟨ρ, g, ι, er, s, p⟩ => by
  refine ⟨ρ, g, ι, er, s, (Post.bind p).imp fun k g1 H1 ι1 _ x1 s1 p1 => ?_⟩
  cases k with
  | true => exact ⟨ρ, g1, ι1, er.ext x1, s1, p1⟩
  | false => exact ⟨ρ, g1, ι1, er.ext x1, s1, p1⟩
theorem chain_read {K : PySem.W.Frag} {mg : Str → Option Value} {f f' : B2} {σ : St} {H : Hp} {Q : VK} (h : tE K mg W (mChain f f' ma mb mc) σ H Q) : tChain (rD K (p2 f)) (rD K (p2 f')) (tE K mg W ma) (tE K mg W mb) (tE K mg W mc) σ H Q := by
  obtain ⟨ρ, g, ι, er, s, p⟩ := h
  refine ⟨ρ, g, ι, er, s, (Post.bind p).imp fun d1 g1 H1 ι1 _ x1 s1 p1 v1 r1 => ⟨ρ, g1, ι1, er.ext x1, s1, (Post.bind p1).imp fun d2 g2 H2 ι2 _ x2 s2 p2' v2 r2 => ?_⟩⟩
  obtain ⟨z, e1, p3⟩ := Post.ofP' p2'
  refine ⟨d1, d2, g2, ι2, s2, r1.ext x2, r2, z, g2, by unfold p2; rw [e1]; rfl, fun v3 H3 ι3 x3 s3 r3 => ?_⟩
  obtain ⟨k, e2, p4⟩ := Post.ofP' p3
  cases asB_some e2
  cases r3
  refine ⟨k, rfl, ?_⟩
  cases k with
  | false => exact (Post.ext x3 p4).ok s3 _ (.bl false)
  | true =>
    refine ⟨ρ, g2, ι3, (er.ext x1).ext (x2.trans x3), s3, (Post.bind (Post.ext x3 p4)).imp fun d5 g5 H5 ι5 _ x5 s5 p5 v5 r5 => ?_⟩
    obtain ⟨d6, e6, k6⟩ := p5.ofP s5
    exact ⟨d2, d5, g5, ι5, s5, (r2.ext x3).ext x5, r5, d6, g5, by unfold p2; rw [e6]; rfl, fun v6 H6 ι6 x6 s6 r6 => by
      obtain ⟨d7, e7, k7⟩ := (Post.ext x6 p5).ofP s6
      rw [e6] at e7; cases e7
      exact k7 v6 r6⟩
theorem e_chain {o1 o2 : CmpOp} {f f' : B2} (h1 : OpR X (compareOp o1) (rD X.K (p2 f))) (h2 : OpR X (compareOp o2) (rD X.K (p2 f'))) (ha : EE X W a ma) (hb : EE X W b mb) (hc : EE X W c mc)
    (hm : lastMarks [o1, o2] [b, c] = false := by rfl) : EE X W (.Compare a [o1, o2] [b, c] pos) (mChain f f' ma mb mc) := (pe_chain h1 h2 ha hb hc hm).mono fun σ H Q h => chain_read h

/-! ### tests -/
theorem t_val (h : EE X W e m) (he : ∀ whole, isTrue e X.env whole = (do let v ← whole; standAt e.pos; holding [v] (truthy v)) := by intro _; rfl) : TTt X W e (tVal m) := (pt_val h he).mono fun σ H Q ⟨ρ, g, ι, er, s, p⟩ => by
  refine ⟨ρ, g, ι, er, s, (Post.bind p).imp fun d1 g1 H1 ι1 _ x1 s1 p1 v1 r1 => ?_⟩
  obtain ⟨c, hc, q1⟩ := Post.ofP s1 p1
  cases asB_some hc
  cases r1
  exact ⟨c, rfl, q1⟩
theorem t_cmp {op : CmpOp} {f : B2} (ho : OpR X (compareOp op) (rD X.K (p2 f))) (ha : EE X W a ma) (hb : EE X W b mb) (hm : behindInMarks op b = false := by rfl) : TTt X W (.Compare a [op] [b] pos) (tVal (mOp (p2 f) ma mb)) :=
  (pt_cmpR ho ha hb hm).mono fun σ H Q ⟨ρ, g, ι, er, s, p⟩ => by
  have p := Post.bind p
  have h : tE X.K X.mg W (mOp (p2 f) ma mb) σ H fun x H1 => ∃ c, x = .bl c ∧ Q c H1 := ⟨ρ, g, ι, er, s, p.imp fun d1 g1 H1 ι1 _ x1 s1 p1 v1 r1 => by
    obtain ⟨c, hc, q1⟩ := Post.ofP s1 p1
    cases asB_some hc
    cases r1
    exact ⟨c, rfl, q1⟩⟩
  exact two h
/-- a test that is a value: the reading -/
theorem val_read {K : PySem.W.Frag} {mg : Str → Option Value} {σ : St} {H : Hp} {Q : Bool → Hp → Prop} (h : tT K mg W (tVal m) σ H Q) : tE K mg W m σ H fun x H' => ∃ k, x = .bl k ∧ Q k H' := by
  obtain ⟨ρ, g, ι, er, s, p⟩ := h
  refine ⟨ρ, g, ι, er, s, (Post.bind p).imp fun d1 g1 H1 ι1 _ x1 s1 p1 v1 r1 => ?_⟩
  obtain ⟨c, hc, q1⟩ := Post.ofP s1 p1
  cases asB_some hc
  cases r1
  exact ⟨c, rfl, q1⟩
theorem t_chain {o1 o2 : CmpOp} {f f' : B2} (h1 : OpR X (compareOp o1) (rD X.K (p2 f))) (h2 : OpR X (compareOp o2) (rD X.K (p2 f'))) (ha : EE X W a ma) (hb : EE X W b mb) (hc : EE X W c mc)
    (hm : lastMarks [o1, o2] [b, c] = false := by rfl) : TTt X W (.Compare a [o1, o2] [b, c] pos) (tVal (mChain f f' ma mb mc)) := (pt_chain h1 h2 ha hb hc hm).mono fun σ H Q h => chain_read (val_read h)
theorem truth_rep {K : PySem.W.Frag} {H : Hp} {ι : List Addr} {g : G} {d : D} {v : V} {b : Bool} (s : SR_ K H ι g) (r : Rep K H ι d v) (h : truth d g = some b) : TruV K v H b := by
  cases r with
  | non => cases h; rfl
  | bl b => cases h; rfl
  | int i => cases h; rfl
  | str z =>
    unfold truth at h
    dsimp only at h
    split at h
    · rename_i hl
      cases h
      have e : (sS z).length = z.length := by simp [sS, Str.length]
      refine ⟨by rw [e, line_eq]; exact hl, ?_⟩
      rw [e]
      cases z <;> simp
      omega
    · cases h
  | @tup ds vs a ht hr =>
    cases h
    refine .inr (.inl ⟨vs, ht, ?_⟩)
    cases hr <;> rfl
  | @ref q a ha =>
    unfold truth at h
    dsimp only at h
    split at h
    · rename_i xs e
      cases h
      obtain ⟨vs, h1, h2⟩ := s.lst ha e
      exact .inl ⟨vs, SqL.of h1, by cases h2 <;> rfl⟩
    · rename_i xs e
      cases h
      obtain ⟨vs, h1, h2⟩ := s.frz ha e
      exact .inl ⟨vs, h1.seq, by cases h2 <;> rfl⟩
    · cases h
theorem t_tru (h : EE X W e m) (he : ∀ whole, isTrue e X.env whole = (do let v ← whole; standAt e.pos; holding [v] (truthy v)) := by exact fun _ => rfl) : TTt X W e (tTru m) := (pt_truth h he).mono fun σ H Q ⟨ρ, g, ι, er, s, p⟩ => by
  refine ⟨ρ, g, ι, er, s, (Post.bind p).imp fun d1 g1 H1 ι1 _ x1 s1 p1 v1 r1 => ?_⟩
  obtain ⟨c, hc, q1⟩ := Post.ofP s1 p1
  exact ⟨c, truth_rep s1 r1 hc, q1⟩
theorem t_and1 (h : TTt X W a t) : PW X (.BoolOp .And [a] pos) (tT X.K X.mg W t) := pw_and1 h
theorem t_or1 (h : TTt X W a t) : PW X (.BoolOp .Or [a] pos) (tT X.K X.mg W t) := pw_or1 h
theorem t_and (ha : TTt X W a t) (hb : PW X (.BoolOp .And (b :: rest) pos) (tT X.K X.mg W u)) : PW X (.BoolOp .And (a :: b :: rest) pos) (tT X.K X.mg W (Py.tAnd t u)) := (pw_and ha hb).mono fun σ H Q ⟨ρ, g, ι, er, s, p⟩ => by
  refine ⟨ρ, g, ι, er, s, (Post.bind p).imp fun k g1 H1 ι1 _ x1 s1 p1 => ?_⟩
  cases k with
  | true => exact ⟨ρ, g1, ι1, er.ext x1, s1, p1⟩
  | false => exact p1.ok s1
theorem t_or (ha : TTt X W a t) (hb : PW X (.BoolOp .Or (b :: rest) pos) (tT X.K X.mg W u)) : PW X (.BoolOp .Or (a :: b :: rest) pos) (tT X.K X.mg W (Py.tOr t u)) := (pw_or ha hb).mono fun σ H Q ⟨ρ, g, ι, er, s, p⟩ => by
  refine ⟨ρ, g, ι, er, s, (Post.bind p).imp fun k g1 H1 ι1 _ x1 s1 p1 => ?_⟩
  cases k with
  | false => exact ⟨ρ, g1, ι1, er.ext x1, s1, p1⟩
  | true => exact p1.ok s1
theorem t_w (h : PW X e (tT X.K X.mg W t)) : TTt X W e t := h.pt
theorem t_not (h : TTt X W a t) : TTt X W (.UnaryOp .Not a pos) (Py.tNot t) := (pt_not h).mono fun σ H Q ⟨ρ, g, ι, er, s, p⟩ => by
  exact ⟨ρ, g, ι, er, s, (Post.bind p).imp fun k g1 H1 ι1 _ x1 s1 p1 => p1.ok s1⟩

/-! ### argument lists, displays -/
theorem a_nil : AA X W [] mNil := pa_nil.mono fun σ H Q ⟨ρ, g, ι, er, s, p⟩ => p.ok s [] .nil
theorem a_cons (ha : EE X W e m) (hr : AA X W es as) (hs : starEach (e :: es) X.env = (false, eval e X.env) :: starEach es X.env := by rfl) : AA X W (e :: es) (mCons m as) := (pa_cons ha hr hs).mono fun σ H Q ⟨ρ, g, ι, er, s, p⟩ => by
  refine ⟨ρ, g, ι, er, s, (Post.bind p).imp fun d1 g1 H1 ι1 _ x1 s1 p1 v1 r1 => ⟨ρ, g1, ι1, er.ext x1, s1, (Post.bind p1).imp fun ds g2 H2 ι2 _ x2 s2 p2 vs rs => ?_⟩⟩
  exact p2.ok s2 _ (.cons (r1.ext x2) rs)
theorem e_tup {x1} (h : AA X W es as) : EE X W (.Tuple es x1 pos) (mTup as) := (pe_tup h).mono fun σ H Q ⟨ρ, g, ι, er, s, p⟩ => by
  refine ⟨ρ, g, ι, er, s, (Post.bind p).imp fun ds g1 H1 ι1 _ x1 s1 p1 vs rs => ?_⟩
  by_cases hl : ds.length ≤ LINE
  · rw [if_pos hl] at p1
    refine ⟨by rw [line_eq, ← rs.len]; exact hl, fun q hq => ?_⟩
    exact p1 _ ι1 (Ext.new hq) (s1.new hq) _ (.tup (SqT.of upd_same) (rs.ext (Ext.new hq)))
  · rw [if_neg hl] at p1
    exact p1.elim
theorem e_lst (h : AA X W es as) : EE X W (.List es pos) (mLst as) := (pe_lst h).mono fun σ H Q ⟨ρ, g, ι, er, s, p⟩ => by
  refine ⟨ρ, g, ι, er, s, (Post.bind p).imp fun ds g1 H1 ι1 _ x1 s1 p1 vs rs => ?_⟩
  by_cases hl : ds.length ≤ LINE
  · rw [if_pos hl] at p1
    refine ⟨by rw [line_eq, ← rs.len]; exact hl, fun q hq => ?_⟩
    exact p1 _ (ι1 ++ [q]) ((Ext.new hq).trans Ext.snoc) (s1.newL hq rs) _ (.ref (by rw [← s1.len]; simp))
  · rw [if_neg hl] at p1
    exact p1.elim
end
end Py
end

section
set_option Elab.async false
set_option linter.all false
set_option maxRecDepth 100000
set_option autoImplicit false
/-! Soundness of the operators. -/
namespace Py
open PySem L2

theorem sS_length (s : List Char) : (sS s).length = s.length := by simp [sS, Str.length]
theorem sS_append (s t : List Char) : sS s ++ sS t = sS (s ++ t) := by
  show Str.append (sS s) (sS t) = _
  simp [sS, Str.append]
theorem toNat_inj {c d : Char} (h : c.toNat = d.toNat) : c = d := Char.toNat_inj.mp h
theorem map_toNat_inj {s t : List Char} (h : s.map Char.toNat = t.map Char.toNat) : s = t := by
  induction s generalizing t with
  | nil => cases t with
    | nil => rfl
    | cons _ _ => cases h
  | cons c s ih => cases t with
    | nil => cases h
    | cons d t =>
      simp only [List.map_cons, List.cons.injEq] at h
      rw [toNat_inj h.1, ih h.2]
theorem sS_inj {s t : List Char} (h : sS s = sS t) : s = t := by
  unfold sS at h
  injection h with h
  exact map_toNat_inj (by simpa using congrArg Array.toList h)
theorem sS_list (s : List Char) : (sS s).cps.toList = s.map Char.toNat := by simp [sS]
theorem mutOf_ref {a : Nat} {g : G} {r : Nat} {xs : List D} (h : mutOf (.ref a) g = some (r, xs)) : r = a ∧ g[a]? = some (.lst xs) := by
  unfold mutOf at h
  dsimp only at h
  split at h
  · rename_i ys e; cases h; exact ⟨rfl, e⟩
  · cases h
theorem mutOf_inv {d : D} {g : G} {r : Nat} {xs : List D} (h : mutOf d g = some (r, xs)) : d = .ref r ∧ g[r]? = some (.lst xs) := by
  cases d with
  | ref a => obtain ⟨e, q⟩ := mutOf_ref h; subst e; exact ⟨rfl, q⟩
  | _ => cases h
section
variable {X : Cx}
theorem newL_post {K : PySem.W.Frag} {H : Hp} {ι : List Addr} {g : G} {xs : List D} {vs : List V} {Q : VK} (s : SR_ K H ι g) (r : Reps K H ι xs vs)
    (k : ∀ v H' ι', Ext K H H' ι ι' → SR_ K H' ι' (g ++ [.lst xs]) → Rep K H' ι' (.ref g.length) v → Q v H') : ∀ p, H p = none → Q (.ref p) (upd H p (.lst vs)) := fun q hq =>
  k _ _ (ι ++ [q]) ((Ext.new hq).trans Ext.snoc) (s.newL hq r) (.ref (by rw [← s.len]; simp))
theorem newT_post {K : PySem.W.Frag} {H : Hp} {ι : List Addr} {g : G} {xs : List D} {vs : List V} {Q : VK} (s : SR_ K H ι g) (r : Reps K H ι xs vs)
    (k : ∀ v H' ι', Ext K H H' ι ι' → SR_ K H' ι' g → Rep K H' ι' (.tup xs) v → Q v H') : ∀ p, H p = none → Q (.ref p) (upd H p (.tup vs)) := fun q hq =>
  k _ _ ι (Ext.new hq) (s.new hq) (.tup (SqT.of upd_same) (r.ext (Ext.new hq)))
theorem o_add : OpR X (binaryOp .Add) (rD X.K oAdd) := by
  intro pins s σ H x y v u Q I rx ry h
  obtain ⟨d1, d2, g, ι, sr, r1, r2, d, g', e, k⟩ := h
  cases r1 with
  | int i =>
    cases r2 with
    | int j => cases e; exact op_add pins s σ H _ _ v u Q I rx ry ⟨i, j, rfl, rfl, k _ H ι Ext.refl sr (.int _)⟩
    | _ => simp [oAdd] at e
  | str a =>
    cases r2 with
    | str b =>
      unfold oAdd at e
      dsimp only at e
      split at e
      · rename_i hl
        cases e
        refine op_add_str pins s σ H _ _ v u Q I rx ry ⟨_, _, rfl, rfl, by rw [sS_length, sS_length, line_eq]; exact hl, ?_⟩
        rw [sS_append]
        exact k _ H ι Ext.refl sr (.str _)
      · cases e
    | _ => simp [oAdd] at e
  | @tup ds vs a hd rd =>
    cases r2 with
    | @tup es ws b he re =>
      unfold oAdd at e
      dsimp only at e
      split at e
      · rename_i hl
        cases e
        refine op_catA pins s σ H _ _ v u Q I rx ry ⟨a, b, vs, ws, rfl, rfl, hd, he, by rw [← rd.len, ← re.len, line_eq]; exact hl, fun z => ?_, fun z1 z2 => ?_, fun z1 z2 => ?_⟩
        · have : ds = [] := List.eq_nil_of_length_eq_zero (by rw [rd.len, z]; rfl)
          subst this
          exact k _ H ι Ext.refl sr (.tup he re)
        · have : es = [] := List.eq_nil_of_length_eq_zero (by rw [re.len, z2]; rfl)
          subst this
          rw [List.append_nil] at k
          exact k _ H ι Ext.refl sr (.tup hd rd)
        · exact newT_post sr (rd.append re) k
      · cases e
    | _ => simp [oAdd] at e
  | @ref r a ha =>
    cases r2 with
    | @ref r' b hb =>
      unfold oAdd at e
      dsimp only at e
      split at e
      · rename_i _ _ q1 xs q2 ys m1 m2
        obtain ⟨_, g1⟩ := mutOf_ref m1
        obtain ⟨_, g2⟩ := mutOf_ref m2
        obtain ⟨vs, h1, rr1⟩ := sr.lst ha g1
        obtain ⟨ws, h2, rr2⟩ := sr.lst hb g2
        split at e
        · rename_i hl
          cases e
          exact op_cat pins s σ H _ _ v u Q I rx ry ⟨a, b, vs, ws, rfl, rfl, h1, h2, by rw [← rr1.len, ← rr2.len, line_eq]; exact hl, newL_post sr (rr1.append rr2) k⟩
        · cases e
      · cases e
    | _ => simp [oAdd] at e
  | _ => simp [oAdd] at e
theorem o_sub : OpR X (binaryOp .Sub) (rD X.K oSub) := by
  intro pins s σ H x y v u Q I rx ry h
  obtain ⟨d1, d2, g, ι, sr, r1, r2, d, g', e, k⟩ := h
  cases r1 with
  | int i =>
    cases r2 with
    | int j => cases e; exact op_sub pins s σ H _ _ v u Q I rx ry ⟨i, j, rfl, rfl, k _ H ι Ext.refl sr (.int _)⟩
    | _ => simp [oSub] at e
  | _ => simp [oSub] at e
theorem mulOk_ok {i j : Int} (h : mulOk i j = true) : PySem.IntMulOk i j := by
  have b : ∀ x : Int, Builtin.Int.intBits x ≤ x.natAbs.log2 + 1 := fun x => by
    unfold Builtin.Int.intBits
    split <;> omega
  have h1 := b i
  have h2 := b j
  have h3 : i.natAbs.log2 + j.natAbs.log2 < 100000000 := of_decide_eq_true h
  have e : bitsLine = 134217728 := by decide
  unfold PySem.IntMulOk
  intro z
  rw [Bool.and_eq_true] at z
  have z2 := z.2
  unfold Builtin.Int.intTooBig at z2
  have z3 := of_decide_eq_true z2
  rw [e] at z3
  omega
theorem o_mulI : OpR X (binaryOp .Mult) (rI (fun i j => mulOk i j = true) fun i j => .int (i * j)) := opI fun i j _ _ _ _ _ hc q => PyProof.Rows.mul_int q (mulOk_ok hc)
theorem foldl_cat (n : Nat) (x : Array Nat) : ∀ z : Array Nat, ((List.replicate n x).foldl (· ++ ·) z) = z ++ (List.replicate n x.toList).flatten.toArray := by
  induction n with
  | zero => intro z; simp
  | succ n ih => intro z; rw [List.replicate_succ, List.foldl_cons, ih, List.replicate_succ, List.flatten_cons]; simp only [Array.append_assoc]; congr 1; apply Array.toList_inj.mp; simp
theorem txt_mul {a : List Char} {n : Int} (h : 2 ≤ n) : Txt.mul (sS a) n = sS (List.replicate n.toNat a).flatten := by
  unfold Txt.mul
  rw [if_neg (by omega)]
  split
  · rename_i z
    rw [Bool.or_eq_true] at z
    rcases z with z | z
    · simp at z; omega
    · have z' : (sS a).length = 0 := by simpa using z
      rw [sS_length] at z'
      have : a = [] := List.eq_nil_of_length_eq_zero z'
      subst this
      congr 1
      induction n.toNat with
      | zero => rfl
      | succ m ih => rw [List.replicate_succ, List.flatten_cons, List.nil_append]; exact ih
  · rw [foldl_cat]
    unfold sS
    congr 1
    simp [List.map_flatten, List.map_replicate]
theorem o_mulS : OpR X (binaryOp .Mult) (fun x y H Q => ∃ a n, x = .str (sS a) ∧ y = .int n ∧ 2 ≤ n ∧ n ≤ 1000 ∧ a.length ≤ 1000 ∧ Q (.str (sS (List.replicate n.toNat a).flatten)) H) := by
  intro pins s σ H x y v u Q I rx ry h
  obtain ⟨a, n, rfl, rfl, h1, h2, h3, q⟩ := h
  obtain ⟨t, rfl⟩ := rx
  obtain ⟨t', rfl⟩ := ry
  have hprod : (a.length : Int) * n ≤ 1000000 := by
    have a1 : (a.length : Int) * n ≤ 1000 * n := Int.mul_le_mul_of_nonneg_right (by omega) (by omega)
    omega
  refine SB.mul ⟨?_, fun z1 z2 => ?_, fun z1 z2 => ?_⟩ fun t' k => ?_
  · rw [Bool.or_eq_false_iff]
    exact ⟨decide_eq_false (by omega), decide_eq_false (by omega)⟩
  · rw [sS_length]
    have : (a.length : Int) ≤ (2 ^ 63 - 1) / n := by
      rw [Int.le_ediv_iff_mul_le (by omega)]
      omega
    omega
  · rw [sS_length]
    unfold Builtin.Str.tooLong
    have : a.length * n.toNat ≤ 1000 * 1000 := Nat.mul_le_mul h3 (by omega)
    have e := line_eq
    unfold LINE at e
    simp only [decide_eq_false_iff_not]
    omega
  · rw [txt_mul h1]
    exact ⟨.str (sS (List.replicate n.toNat a).flatten), H, I.tok k, ⟨t', rfl⟩, q⟩
theorem o_mul : OpR X (binaryOp .Mult) (rD X.K oMul) := by
  intro pins s σ H x y v u Q I rx ry h
  obtain ⟨d1, d2, g, ι, sr, r1, r2, d, g', e, k⟩ := h
  cases r2 with
  | int j =>
    cases r1 with
    | int i =>
      unfold oMul at e
      dsimp only at e
      split at e
      · rename_i hc
        cases e
        exact o_mulI pins s σ H _ _ v u Q I rx ry ⟨i, j, rfl, rfl, hc, k _ H ι Ext.refl sr (.int _)⟩
      · cases e
    | str a =>
      unfold oMul at e
      dsimp only at e
      split at e
      · rename_i hc
        cases e
        exact o_mulS pins s σ H _ _ v u Q I rx ry ⟨a, j, rfl, rfl, hc.1, hc.2.1, hc.2.2, k _ H ι Ext.refl sr (.str _)⟩
      · cases e
    | @tup ds vs a hd rd =>
      unfold oMul at e
      dsimp only at e
      split at e
      · rename_i hc
        cases e
        have hr : Reps X.K H ι (List.replicate j.toNat ds).flatten (List.replicate j.toNat vs).flatten := by
          induction j.toNat with
          | zero => exact .nil
          | succ m ih => rw [List.replicate_succ, List.replicate_succ, List.flatten_cons, List.flatten_cons]; exact rd.append ih
        exact op_repT pins s σ H _ _ v u Q I rx ry ⟨a, j, vs, rfl, rfl, hd, fun z => hc.2.2.2 (by rw [rd.len, z]; rfl), hc.1, hc.2.1, by rw [← rd.len]; exact hc.2.2.1, newT_post sr hr k⟩
      · cases e
    | @ref r a ha =>
      unfold oMul at e
      dsimp only at e
      split at e
      · rename_i q1 xs m1
        obtain ⟨_, g1⟩ := mutOf_ref m1
        obtain ⟨vs, h1, rr1⟩ := sr.lst ha g1
        split at e
        · rename_i hc
          cases e
          have hr : Reps X.K H ι (List.replicate j.toNat xs).flatten (List.replicate j.toNat vs).flatten := by
            induction j.toNat with
            | zero => exact .nil
            | succ m ih => rw [List.replicate_succ, List.replicate_succ, List.flatten_cons, List.flatten_cons]; exact rr1.append ih
          exact op_rep pins s σ H _ _ v u Q I rx ry ⟨a, j, vs, rfl, rfl, h1, by omega, by omega, by rw [← rr1.len, line_eq]; exact hc.2.2, newL_post sr hr k⟩
        · cases e
      · cases e
    | _ => simp [oMul] at e
  | _ => cases r1 <;> simp [oMul] at e
theorem o_fdiv : OpR X (binaryOp .FloorDiv) (rD X.K oFdiv) := by
  intro pins s σ H x y v u Q I rx ry h
  obtain ⟨d1, d2, g, ι, sr, r1, r2, d, g', e, k⟩ := h
  cases r1 with
  | int i =>
    cases r2 with
    | int j =>
      unfold oFdiv at e
      dsimp only at e
      split at e
      · rename_i hc
        cases e
        exact op_fdivW pins s σ H _ _ v u Q I rx ry ⟨i, j, rfl, rfl, hc, k _ H ι Ext.refl sr (.int _)⟩
      · cases e
    | _ => simp [oFdiv] at e
  | _ => simp [oFdiv] at e
theorem o_mod : OpR X (binaryOp .Mod) (rD X.K oMod) := by
  intro pins s σ H x y v u Q I rx ry h
  obtain ⟨d1, d2, g, ι, sr, r1, r2, d, g', e, k⟩ := h
  cases r1 with
  | int i =>
    cases r2 with
    | int j =>
      unfold oMod at e
      dsimp only at e
      split at e
      · rename_i hc
        cases e
        exact op_mod pins s σ H _ _ v u Q I rx ry ⟨i, j, rfl, rfl, hc, k _ H ι Ext.refl sr (.int _)⟩
      · cases e
    | _ => simp [oMod] at e
  | _ => simp [oMod] at e
theorem intBits_le (x : Int) : Builtin.Int.intBits x ≤ x.natAbs.log2 + 1 := by
  unfold Builtin.Int.intBits
  split <;> omega
theorem o_powI : OpR X (binaryOp .Pow) (rI (fun i j => powOk i j = true) fun i j => .int (i ^ j.toNat)) := opI fun i j _ _ _ _ _ hc q => by
  have hc' : 0 ≤ j ∧ ((i.natAbs.log2 + 1 : Nat) : Int) * j ≤ 134217728 := of_decide_eq_true hc
  refine PyProof.Rows.pow_int hc'.1 ?_ q
  have h1 := intBits_le i
  have h2 : ((Builtin.Int.intBits i : Nat) : Int) * j ≤ ((i.natAbs.log2 + 1 : Nat) : Int) * j := Int.mul_le_mul_of_nonneg_right (by omega) hc'.1
  have : (2 : Int) ^ 27 = 134217728 := by decide
  omega
theorem o_pow : OpR X (binaryOp .Pow) (rD X.K oPow) := by
  intro pins s σ H x y v u Q I rx ry h
  obtain ⟨d1, d2, g, ι, sr, r1, r2, d, g', e, k⟩ := h
  cases r1 with
  | int i =>
    cases r2 with
    | int j =>
      unfold oPow at e
      dsimp only at e
      split at e
      · rename_i hc
        cases e
        exact o_powI pins s σ H _ _ v u Q I rx ry ⟨i, j, rfl, rfl, hc, k _ H ι Ext.refl sr (.int _)⟩
      · cases e
    | _ => simp [oPow] at e
  | _ => simp [oPow] at e
theorem o_neg : UnR X (unaryOp .USub) (rD1 X.K oNeg) := by
  intro pins s σ H x v Q I rx h
  obtain ⟨d1, g, ι, sr, r1, d, g', e, k⟩ := h
  cases r1 with
  | int i => cases e; exact un_neg pins s σ H _ v Q I rx ⟨i, rfl, k _ H ι Ext.refl sr (.int _)⟩
  | _ => simp [oNeg] at e
/-! ### comparisons -/
theorem o_int {op : CmpOp} {p : Int → Int → Bool} {f : B2} (h : OpR X (compareOp op) (rI0 fun i j => .bl (p i j))) (hf : ∀ x y g d, f x y g = some d → ∃ i j, x = .int i ∧ y = .int j ∧ d = .bl (p i j)) : OpR X (compareOp op) (rD X.K (p2 f)) := by
  intro pins s σ H x y v u Q I rx ry q
  obtain ⟨d1, d2, g, ι, sr, r1, r2, d, e, k⟩ := q.pure
  obtain ⟨i, j, rfl, rfl, rfl⟩ := hf _ _ _ _ e
  cases r1
  cases r2
  exact h pins s σ H _ _ v u Q I rx ry ⟨i, j, rfl, rfl, k _ (.bl _)⟩
theorem o_lt : OpR X (compareOp .Lt) (rD X.K (p2 oLt)) := o_int op_lt fun x y g d h => by
  cases x <;> cases y <;> simp [oLt] at h
  exact ⟨_, _, rfl, rfl, h.symm⟩
theorem o_le : OpR X (compareOp .LtE) (rD X.K (p2 oLe)) := o_int op_le fun x y g d h => by
  cases x <;> cases y <;> simp [oLe] at h
  exact ⟨_, _, rfl, rfl, h.symm⟩
theorem o_gt : OpR X (compareOp .Gt) (rD X.K (p2 oGt)) := o_int op_gt fun x y g d h => by
  cases x <;> cases y <;> simp [oGt] at h
  exact ⟨_, _, rfl, rfl, h.symm⟩
theorem o_ge : OpR X (compareOp .GtE) (rD X.K (p2 oGe)) := o_int op_ge fun x y g d h => by
  cases x <;> cases y <;> simp [oGe] at h
  exact ⟨_, _, rfl, rfl, h.symm⟩
theorem rep_non {K H ι} {d : D} {v : V} (r : Rep K H ι d v) : (v = .non ↔ d = .non) := by
  cases r <;> simp
theorem o_isN : OpR X (compareOp .Is) (rD X.K (p2 oIsN)) := by
  intro pins s σ H x y v u Q I rx ry q
  obtain ⟨d1, d2, g, ι, sr, r1, r2, d, e, k⟩ := q.pure
  cases d2 with
  | non =>
    cases r2
    refine op_isN pins s σ H _ _ v u Q I rx ry ⟨rfl, ?_⟩
    have hb : d = .bl (decide (x = .non)) := by
      have z := rep_non r1
      cases r1 <;> simp [oIsN] at e ⊢ <;> exact e.symm
    subst hb
    exact k _ (.bl _)
  | _ => cases d1 <;> simp [oIsN] at e
theorem o_notN : OpR X (compareOp .IsNot) (rD X.K (p2 oNotN)) := by
  intro pins s σ H x y v u Q I rx ry q
  obtain ⟨d1, d2, g, ι, sr, r1, r2, d, e, k⟩ := q.pure
  cases d2 with
  | non =>
    cases r2
    refine op_notN pins s σ H _ _ v u Q I rx ry ⟨rfl, ?_⟩
    have hb : d = .bl (!decide (x = .non)) := by
      have z := rep_non r1
      cases r1 <;> simp [oNotN] at e ⊢ <;> exact e.symm
    subst hb
    exact k _ (.bl _)
  | _ => cases d1 <;> simp [oNotN] at e
end
end Py
end

section
set_option Elab.async false
set_option linter.all false
set_option maxRecDepth 100000
set_option autoImplicit false
/-! Soundness of == and in. -/
namespace Py
open PySem L2

mutual
def P.py : P → PyData
  | .non => .none
  | .bl b => .bool b
  | .int i => .int i
  | .str s => .str (sS s)
  | .tup ds => .tuple (P.pys ds)
  | .lst ds => .list (P.pys ds)
def P.pys : List P → List PyData
  | [] => []
  | p :: r => P.py p :: P.pys r
end
theorem sS_beq (s t : List Char) : (sS s == sS t) = (s == t) := by
  by_cases h : s = t
  · subst h; simp
  · rw [beq_eq_false_iff_ne.mpr h]
    exact beq_eq_false_iff_ne.mpr fun e => h (sS_inj e)
mutual
theorem P.eqv_py : ∀ p q : P, PyData.eqv p.py q.py = P.eqv p q
  | .non, q => by cases q <;> simp [P.py, PyData.eqv, P.eqv]
  | .bl a, q => by cases q <;> simp [P.py, PyData.eqv, P.eqv, b2i]
  | .int a, q => by cases q <;> simp [P.py, PyData.eqv, P.eqv, b2i]
  | .str a, q => by
    cases q with
    | str b => simp only [P.py, PyData.eqv, P.eqv]; exact sS_beq a b
    | _ => simp [P.py, PyData.eqv, P.eqv]
  | .tup a, q => by
    cases q with
    | tup b => simp only [P.py, PyData.eqv, P.eqv]; exact P.eqvs_py a b
    | _ => simp [P.py, PyData.eqv, P.eqv]
  | .lst a, q => by
    cases q with
    | lst b => simp only [P.py, PyData.eqv, P.eqv]; exact P.eqvs_py a b
    | _ => simp [P.py, PyData.eqv, P.eqv]
theorem P.eqvs_py : ∀ p q : List P, PyData.eqvAll (P.pys p) (P.pys q) = P.eqvs p q
  | [], q => by cases q <;> simp [P.pys, PyData.eqvAll, P.eqvs]
  | p :: r, q => by
    cases q with
    | nil => simp [P.pys, PyData.eqvAll, P.eqvs]
    | cons q s => simp only [P.pys, PyData.eqvAll, P.eqvs]; rw [P.eqv_py p q, P.eqvs_py r s]
end
theorem char_lt (c : Char) : c.toNat < 1114112 := by
  have h := c.valid
  have e : c.toNat = c.val.toNat := rfl
  simp only [UInt32.isValidChar, Nat.isValidChar] at h
  omega
mutual
theorem P.lay : ∀ p : P, p.py.canLay0 = true
  | .non => by simp [P.py, PyData.canLay0]
  | .bl _ => by simp [P.py, PyData.canLay0]
  | .int _ => by simp [P.py, PyData.canLay0]
  | .str s => by
    simp only [P.py, PyData.canLay0]
    unfold PyData.strOk
    rw [Array.all_eq_true_iff_forall_mem]
    intro c hc
    simp [sS] at hc
    obtain ⟨a, _, rfl⟩ := hc
    exact decide_eq_true (char_lt a)
  | .tup ds => by simp only [P.py, PyData.canLay0]; exact P.lays ds
  | .lst ds => by simp only [P.py, PyData.canLay0]; exact P.lays ds
theorem P.lays : ∀ p : List P, PyData.canLayAll0 (P.pys p) = true
  | [] => by simp [P.pys, PyData.canLayAll0]
  | p :: r => by simp only [P.pys, PyData.canLayAll0, P.lay p, P.lays r, Bool.and_self]
end
theorem viewL_some {f : D → Option P} {d : D} {ds : List D} {ps : List P} (h : viewL f (d :: ds) = some ps) : ∃ p qs, ps = p :: qs ∧ f d = some p ∧ viewL f ds = some qs := by
  unfold viewL at h
  split at h
  · rename_i p qs h1 h2; cases h; exact ⟨p, qs, rfl, h1, h2⟩
  · cases h
theorem depth_view (g : G) : ∀ (n : Nat) (d : D) (p : P), view g n d = some p → p.py.depth ≤ n := by
  intro n
  induction n with
  | zero =>
    intro d p h
    cases d <;> simp [view] at h <;> subst h <;> simp [P.py, PyData.depth]
  | succ n ih =>
    have all : ∀ (ds : List D) (ps : List P), viewL (view g n) ds = some ps → PyData.depthAll (P.pys ps) ≤ n := by
      intro ds
      induction ds with
      | nil => intro ps h; cases h; simp [P.pys, PyData.depthAll]
      | cons d ds ih2 =>
        intro ps h
        obtain ⟨p, qs, rfl, h1, h2⟩ := viewL_some h
        simp only [P.pys, PyData.depthAll]
        exact Nat.max_le.mpr ⟨ih d p h1, ih2 qs h2⟩
    intro d p h
    cases d with
    | tup ds =>
      simp only [view, Option.map_eq_some_iff] at h
      obtain ⟨ps, h1, rfl⟩ := h
      simp only [P.py, PyData.depth]
      have := all ds ps h1
      omega
    | ref r =>
      simp only [view] at h
      split at h
      · simp only [Option.map_eq_some_iff] at h
        obtain ⟨ps, h1, rfl⟩ := h
        simp only [P.py, PyData.depth]
        have := all _ ps h1
        omega
      · cases h
    | _ => simp [view] at h; subst h; simp [P.py, PyData.depth]
theorem depth_views (g : G) (n : Nat) (ds : List D) (ps : List P) (h : viewL (view g n) ds = some ps) : PyData.depthAll (P.pys ps) ≤ n := by
  induction ds generalizing ps with
  | nil => cases h; simp [P.pys, PyData.depthAll]
  | cons d ds ih2 =>
    obtain ⟨p, qs, rfl, h1, h2⟩ := viewL_some h
    simp only [P.pys, PyData.depthAll]
    exact Nat.max_le.mpr ⟨depth_view g n d p h1, ih2 qs h2⟩
section
variable {K : PySem.W.Frag} {H : Hp} {ι : List Addr} {g : G}
theorem dp_view (s : SR_ K H ι g) : ∀ (n : Nat) (d : D) (p : P) (v : V), view g n d = some p → Rep K H ι d v → Dp K H v p.py := by
  intro n
  induction n with
  | zero =>
    intro d p v h r
    cases r <;> simp [view] at h <;> subst h
    · exact .non
    · exact .bl _
    · exact .int _
    · exact .str _
  | succ n ih =>
    have all : ∀ (ds : List D) (ps : List P) (vs : List V), viewL (view g n) ds = some ps → Reps K H ι ds vs → DpAll K H vs (P.pys ps) := by
      intro ds
      induction ds with
      | nil => intro ps vs h r; cases r; cases h; exact .nil
      | cons d ds ih2 =>
        intro ps vs h r
        obtain ⟨p, qs, rfl, h1, h2⟩ := viewL_some h
        cases r with
        | cons r1 r2 => exact .cons (ih d p _ h1 r1) (ih2 qs _ h2 r2)
    intro d p v h r
    cases r with
    | non => simp [view] at h; subst h; exact .non
    | bl b => simp [view] at h; subst h; exact .bl _
    | int b => simp [view] at h; subst h; exact .int _
    | str b => simp [view] at h; subst h; exact .str _
    | tup hs hr =>
      simp only [view, Option.map_eq_some_iff] at h
      obtain ⟨ps, h1, rfl⟩ := h
      exact .tup hs (all _ ps _ h1 hr)
    | @ref r a ha =>
      simp only [view] at h
      split at h
      · rename_i xs hx
        simp only [Option.map_eq_some_iff] at h
        obtain ⟨ps, h1, rfl⟩ := h
        obtain ⟨a', vs, e, hs, hr⟩ := s.list (.ref ha) hx
        cases e
        exact .lst hs (all _ ps _ h1 hr)
      · cases h
theorem dp_views (s : SR_ K H ι g) (n : Nat) (ds : List D) (ps : List P) (vs : List V) (h : viewL (view g n) ds = some ps) (r : Reps K H ι ds vs) : DpAll K H vs (P.pys ps) := by
  induction ds generalizing ps vs with
  | nil => cases r; cases h; exact .nil
  | cons d ds ih =>
    obtain ⟨p, qs, rfl, h1, h2⟩ := viewL_some h
    cases r with
    | cons r1 r2 => exact .cons (dp_view s n d p _ h1 r1) (ih qs _ h2 r2)
end
theorem shaped_view {g : G} {d : D} {p : P} (h : view g 60 d = some p) : SeqAt.shaped p.py = true := by
  unfold SeqAt.shaped
  rw [P.lay p, Bool.true_and]
  have := depth_view g 60 d p h
  exact decide_eq_true (by omega)
theorem shaped_views {g : G} {ds : List D} {ps : List P} (h : viewL (view g 60) ds = some ps) : SeqAt.shaped (.list (P.pys ps)) = true := by
  unfold SeqAt.shaped
  simp only [PyData.canLay0, P.lays ps, Bool.true_and, PyData.depth]
  have := depth_views g 60 ds ps h
  exact decide_eq_true (by omega)
theorem any_py (p : P) : ∀ ps : List P, ((P.pys ps).any fun z => PyData.eqv z p.py) = ps.any fun q => P.eqv q p
  | [] => by simp [P.pys]
  | q :: r => by simp only [P.pys, List.any_cons]; rw [P.eqv_py q p, any_py p r]
section
variable {X : Cx}
theorem o_eq {k : Nat} (hr : Room k X.A) : OpR X (compareOp .Eq) (rD X.K (p2 oEq)) := by
  intro pins s σ H x y v u Q I rx ry q
  obtain ⟨d1, d2, g, ι, sr, r1, r2, d, e, k⟩ := q.pure
  simp only [oEq, Option.map_eq_some_iff, eqD] at e
  obtain ⟨b, e, rfl⟩ := e
  split at e
  · rename_i p q h1 h2
    cases e
    refine op_eqD hr.units pins s σ H _ _ v u Q I rx ry ⟨p.py, q.py, dp_view sr 60 _ _ _ h1 r1, dp_view sr 60 _ _ _ h2 r2, shaped_view h1, shaped_view h2, ?_⟩
    rw [P.eqv_py]
    exact k _ (.bl _)
  · cases e
theorem o_ne {k : Nat} (hr : Room k X.A) : OpR X (compareOp .NotEq) (rD X.K (p2 oNe)) := by
  intro pins s σ H x y v u Q I rx ry q
  obtain ⟨d1, d2, g, ι, sr, r1, r2, d, e, k⟩ := q.pure
  simp only [oNe, Option.map_eq_some_iff, eqD] at e
  obtain ⟨b, e, rfl⟩ := e
  split at e
  · rename_i p q h1 h2
    cases e
    refine op_neD hr.units pins s σ H _ _ v u Q I rx ry ⟨p.py, q.py, dp_view sr 60 _ _ _ h1 r1, dp_view sr 60 _ _ _ h2 r2, shaped_view h1, shaped_view h2, ?_⟩
    rw [P.eqv_py]
    exact k _ (.bl _)
  · cases e
theorem flat_rep {K H ι} {d : D} {v : V} (r : Rep K H ι d v) : flatV v = true ↔ flat d = true := by
  cases r <;> simp [flatV, flat]
theorem dec_sS (a b : List Char) : (sS a == sS b) = (a == b) := sS_beq a b
theorem eqF_rep {K H ι} {d e : D} {v u : V} (r : Rep K H ι d v) (q : Rep K H ι e u) : eqV v u = eqF d e := by
  cases r <;> cases q <;> simp [eqV, eqF, b2i]
  exact sS_beq _ _
theorem inF_rep {K H ι} {d : D} {v : V} (r : Rep K H ι d v) : ∀ {ds : List D} {vs : List V}, Reps K H ι ds vs → inV v vs = ds.any fun y => eqF y d
  | _, _, .nil => rfl
  | _, _, .cons h t => by
    have ih := inF_rep r t
    unfold inV at ih ⊢
    rw [List.any_cons, List.any_cons, eqF_rep h r, ih]
theorem flats_rep {K H ι} : ∀ {ds : List D} {vs : List V}, Reps K H ι ds vs → ds.all flat = true → vs.all flatV = true
  | _, _, .nil, _ => rfl
  | _, _, .cons h t, f => by
    rw [List.all_cons, Bool.and_eq_true] at f ⊢
    exact ⟨(flat_rep h).mpr f.1, flats_rep t f.2⟩
/-- in, in three kinds -/
theorem in_cases {g : G} {x y : D} {b : Bool} (h : inD x y g = some b) : (∃ c t, x = .str [c] ∧ y = .str t ∧ b = decide (c ∈ t)) ∨
    (∃ ds, y = .tup ds ∧ flat x = true ∧ ds.all flat = true ∧ b = ds.any fun z => eqF z x) ∨
    (∃ r xs p ps, y = .ref r ∧ lstOf (.ref r) g = some xs ∧ view g 60 x = some p ∧ viewL (view g 60) xs = some ps ∧ b = ps.any fun q => P.eqv q p) := by
  unfold inD at h
  split at h
  · cases h; exact .inl ⟨_, _, rfl, rfl, rfl⟩
  · split at h
    · rename_i hf
      rw [Bool.and_eq_true] at hf
      cases h
      exact .inr (.inl ⟨_, rfl, hf.1, hf.2, rfl⟩)
    · cases h
  · split at h
    · rename_i xs h1
      split at h
      · rename_i p ps h2 h3
        cases h
        exact .inr (.inr ⟨_, xs, p, ps, rfl, h1, h2, h3, rfl⟩)
      · cases h
    · cases h
  · cases h
theorem mem_sign {c : Char} {t : List Char} : (c.toNat ∈ (sS t).cps.toList) ↔ c ∈ t := by
  rw [sS_list]
  constructor
  · intro h
    obtain ⟨a, ha, e⟩ := List.mem_map.mp h
    rw [← toNat_inj e]; exact ha
  · exact fun h => List.mem_map_of_mem h
theorem sS_one (c : Char) : sS [c] = ⟨#[c.toNat]⟩ := rfl
theorem o_in {k : Nat} (hr : Room k X.A) : OpR X (compareOp .In) (rD X.K (p2 oIn)) := by
  intro pins s σ H x y v u Q I rx ry q
  obtain ⟨d1, d2, g, ι, sr, r1, r2, d, e, k⟩ := q.pure
  simp only [oIn, Option.map_eq_some_iff] at e
  obtain ⟨b, e, rfl⟩ := e
  rcases in_cases e with ⟨c, t, rfl, rfl, rfl⟩ | ⟨ds, rfl, f1, f2, rfl⟩ | ⟨r, xs, p, ps, rfl, h1, h2, h3, rfl⟩
  · cases r1
    cases r2
    refine op_in_sign pins s σ H _ _ v u Q I rx ry ⟨c.toNat, sS t, rfl, rfl, ?_⟩
    rw [decide_eq_decide.mpr mem_sign]
    exact k _ (.bl _)
  · cases r2 with
    | tup ht hd =>
      refine op_in_seq pins s σ H _ _ v u Q I rx ry ⟨_, _, rfl, .inr ht, (flat_rep r1).mpr f1, flats_rep hd f2, ?_⟩
      rw [if_neg Bool.false_ne_true, inF_rep r1 hd]
      exact k _ (.bl _)
  · obtain ⟨a, vs, rfl, hs, hrr⟩ := sr.list r2 h1
    refine op_inD (by have := hr.un; omega) pins s σ H _ _ v u Q I rx ry ⟨p.py, P.pys ps, dp_view sr 60 _ _ _ h2 r1, .lst hs (dp_views sr 60 _ _ _ h3 hrr), shaped_view h2, shaped_views h3, ?_⟩
    rw [any_py]
    exact k _ (.bl _)
theorem o_notIn {k : Nat} (hr : Room k X.A) : OpR X (compareOp .NotIn) (rD X.K (p2 oNotIn)) := by
  intro pins s σ H x y v u Q I rx ry q
  obtain ⟨d1, d2, g, ι, sr, r1, r2, d, e, k⟩ := q.pure
  simp only [oNotIn, Option.map_eq_some_iff] at e
  obtain ⟨b, e, rfl⟩ := e
  rcases in_cases e with ⟨c, t, rfl, rfl, rfl⟩ | ⟨ds, rfl, f1, f2, rfl⟩ | ⟨r, xs, p, ps, rfl, h1, h2, h3, rfl⟩
  · cases r1
    cases r2
    refine op_notIn_sign pins s σ H _ _ v u Q I rx ry ⟨c.toNat, sS t, rfl, rfl, ?_⟩
    rw [decide_eq_decide.mpr mem_sign]
    exact k _ (.bl _)
  · cases r2 with
    | tup ht hd =>
      refine op_notIn_seq pins s σ H _ _ v u Q I rx ry ⟨_, _, rfl, .inr ht, (flat_rep r1).mpr f1, flats_rep hd f2, ?_⟩
      rw [if_pos rfl, inF_rep r1 hd]
      exact k _ (.bl _)
  · obtain ⟨a, vs, rfl, hs, hrr⟩ := sr.list r2 h1
    refine op_notInD (by have := hr.un; omega) pins s σ H _ _ v u Q I rx ry ⟨p.py, P.pys ps, dp_view sr 60 _ _ _ h2 r1, .lst hs (dp_views sr 60 _ _ _ h3 hrr), shaped_view h2, shaped_views h3, ?_⟩
    rw [any_py]
    exact k _ (.bl _)
end
end Py
end

section
set_option Elab.async false
set_option linter.all false
set_option maxRecDepth 100000
set_option autoImplicit false
/-! Soundness of subscripts, slices, built-ins, append. -/
namespace Py
open PySem L2
section
variable {X : Cx} {W : WX} {a b c e : Expr} {es : List Expr} {pos : Pos} {ma mb mc m : M} {as : A}
theorem ix_eq (n : Nat) (i : Int) : L2.ixN n i = ix n i := rfl
theorem atI_rep {K H ι} {ds : List D} {vs : List V} {i : Int} {d : D} (r : Reps K H ι ds vs) (h : atI ds i = some d) : ∃ v, L2.atI vs i = some v ∧ Rep K H ι d v := by
  unfold atI at h
  unfold L2.atI
  rw [ix_eq, ← r.len]
  cases e : ix ds.length i with
  | none => rw [e] at h; cases h
  | some j =>
    rw [e] at h
    obtain ⟨v, h1, h2⟩ := r.get h
    exact ⟨v, h1, h2⟩
theorem i_idx : IxR X (rD X.K (p2 oIdx)) := by
  intro a b pins s σ H x y v u Q I rx ry q hs
  obtain ⟨d1, d2, g, ι, sr, r1, r2, d, e, k⟩ := q.pure
  cases d2 with
  | int i =>
    cases r2
    cases r1 with
    | str z =>
      unfold oIdx at e
      dsimp only at e
      split at e
      · rename_i hl
        simp only [Option.map_eq_some_iff] at e
        obtain ⟨c, h1, rfl⟩ := e
        refine ix_str a b pins s σ H _ _ v u Q I rx ry ⟨sS z, i, c.toNat, rfl, rfl, by rw [sS_length, line_eq]; exact hl, ?_, k _ (.str [c])⟩ hs
        rw [sS_list]
        unfold L2.atI
        unfold atI at h1
        rw [List.length_map, ix_eq]
        cases e : ix z.length i with
        | none => rw [e] at h1; cases h1
        | some j =>
          rw [e] at h1
          have h1' : z[j]? = some c := h1
          show (z.map Char.toNat)[j]? = some c.toNat
          rw [List.getElem?_map, h1']; rfl
      · cases e
    | @tup ds vs p ht hr =>
      have e : atI ds i = some d := e
      obtain ⟨w, h1, h2⟩ := atI_rep hr e
      exact ix_tup a b pins s σ H _ _ v u Q I rx ry ⟨p, vs, i, w, rfl, rfl, ht, h1, k _ h2⟩ hs
    | @ref r p hp =>
      have e : ((lstOf (.ref r) g).bind fun xs => atI xs i) = some d := e
      cases hl : lstOf (.ref r) g with
      | none => rw [hl] at e; cases e
      | some xs =>
        rw [hl] at e
        obtain ⟨a', vs, ee, hq, hr⟩ := sr.list (.ref hp) hl
        cases ee
        obtain ⟨w, h1, h2⟩ := atI_rep hr e
        exact ix_list a b pins s σ H _ _ v u Q I rx ry ⟨p, vs, i, w, rfl, rfl, hq, h1, k _ h2⟩ hs
    | _ => simp [oIdx] at e
  | _ => cases d1 <;> simp [oIdx] at e
theorem e_idx (ha : EE X W a ma) (hb : EE X W b mb) (hs : PlainIx b := by exact fun _ _ => rfl) : EE X W (.Subscript a b pos) (mOp (p2 oIdx) ma mb) := (pe_ix i_idx ha hb hs).mono fun _ _ _ h => two h
/-! ### slices -/
theorem sIx_eq (n d : Nat) (o : Option Int) : HT.sIx n d o = sIx n d o := by cases o <;> rfl
theorem cut_rep {K H ι} {ds : List D} {vs : List V} (r : Reps K H ι ds vs) (lo hi : Option Int) : Reps K H ι (cut ds lo hi) (cutV vs lo hi) := by
  unfold cut cutV
  rw [sIx_eq, sIx_eq, ← r.len]
  exact (r.drop _).take _
def rSl (K : PySem.W.Frag) : V → Option Int → Option Int → Hp → VK → Prop := fun x lo hi H Q => ∃ d1 g ι, SR_ K H ι g ∧ Rep K H ι d1 x ∧ ∃ d g', oSl d1 lo hi g = some (d, g') ∧ ∀ v H' ι', Ext K H H' ι ι' → SR_ K H' ι' g' → Rep K H' ι' d v → Q v H'
theorem i_sl : SlR X (rSl X.K) := by
  intro pins s σ H x v vl vu lo hi sl Q I rx hs pl pu h
  obtain ⟨d1, g, ι, sr, r1, d, g', e, k⟩ := h
  cases r1 with
  | str z =>
    unfold oSl at e
    dsimp only at e
    split at e
    · rename_i hl
      cases e
      refine sl_str pins s σ H _ v vl vu lo hi sl Q I rx hs pl pu ⟨sS z, rfl, by rw [sS_length, line_eq]; exact hl, ?_⟩
      have : cutS (sS z) lo hi = sS (cut z lo hi) := by
        unfold cutS sS cut
        rw [sIx_eq, sIx_eq]
        simp [Str.length, List.map_take, List.map_drop]
      rw [this]
      exact k _ H ι Ext.refl sr (.str _)
    · cases e
  | @tup ds vs p ht hr =>
    cases e
    refine sl_tupA pins s σ H _ v vl vu lo hi sl Q I rx hs pl pu ⟨p, vs, rfl, ht, fun hw => ?_, fun _ => newT_post sr (cut_rep hr lo hi) k⟩
    have : cut ds lo hi = ds := by
      unfold cut
      rw [← sIx_eq, ← sIx_eq, hr.len, hw.1, hw.2]
      simp [← hr.len]
    rw [this] at k
    exact k _ H ι Ext.refl sr (.tup ht hr)
  | @ref r p hp =>
    unfold oSl at e
    simp only [Option.map_eq_some_iff] at e
    obtain ⟨xs, h1, h2⟩ := e
    cases h2
    obtain ⟨a', vs, ee, hq, hr⟩ := sr.list (.ref hp) h1
    cases ee
    exact sl_list pins s σ H _ v vl vu lo hi sl Q I rx hs pl pu ⟨p, vs, rfl, hq, newL_post sr (cut_rep hr lo hi) k⟩
  | _ => simp [oSl] at e
/-- a part of a slice -/
def tO (K : PySem.W.Frag) (mg : Str → Option Value) (W : WX) (m : Option M) : TO := fun σ H Q => ∃ ρ g ι, ER K H ι ρ σ ∧ SR_ K H ι g ∧ Post K mg W σ H ι (mIx m ρ g) fun o _ H' _ => Q o H'
abbrev OO (X : Cx) (W : WX) (e : Option Expr) (m : Option M) : Prop := PO X e (tO X.K X.mg W m)
theorem oo_none : OO X W none none := ⟨fun pins s σ H Q I ⟨ρ, g, ι, er, sr, p⟩ => po_none.run pins s σ H Q I (p.ok sr)⟩
theorem oo_some (h : EE X W e m) : OO X W (some e) (some m) := ⟨fun pins s σ H Q I ⟨ρ, g, ι, er, sr, p⟩ => (po_some h).run pins s σ H Q I ⟨ρ, g, ι, er, sr, (Post.bind p).imp fun d1 g1 H1 ι1 _ x1 s1 p1 v1 r1 => by
  obtain ⟨i, hi, p2⟩ := Post.ofP' p1
  cases asI_some hi
  exact ⟨i, r1.int_inv, p2.ok s1⟩⟩⟩
theorem e_sl {lo hi : Option Expr} {ml mh : Option M} {p2 : Pos} (ha : EE X W a ma) (hl : OO X W lo ml) (hh : OO X W hi mh) : EE X W (.Subscript a (.Slice lo hi none p2) pos) (mSl ma ml mh) := (pe_slice i_sl ha hl hh).mono fun σ H Q ⟨ρ, g, ι, er, s, p⟩ => by
  refine ⟨ρ, g, ι, er, s, (Post.bind p).imp fun d1 g1 H1 ι1 _ x1 s1 p1 v1 r1 => ⟨ρ, g1, ι1, er.ext x1, s1, (Post.bind p1).imp fun l g2 H2 ι2 _ x2 s2 p2 => ⟨ρ, g2, ι2, (er.ext x1).ext x2, s2, (Post.bind p2).imp fun h g3 H3 ι3 _ x3 s3 p3 => ?_⟩⟩⟩
  obtain ⟨d, g', e, k⟩ := p3.ofO
  exact ⟨d1, g3, ι3, s3, (r1.ext x2).ext x3, d, g', e, fun v H' ι' x s' r => k H' ι' x s' v r⟩
/-! ### built-ins of one argument, of two -/
def rC1 (K : PySem.W.Frag) (f : N1) : List V → Hp → VK → Prop := fun xs H Q => ∃ x, xs = [x] ∧ rD1 K f x H Q
def rC2 (K : PySem.W.Frag) (f : N2) : List V → Hp → VK → Prop := fun xs H Q => ∃ x y, xs = [x, y] ∧ rD K f x y H Q
variable {x : Str} {p : Pos} {id T : String}
theorem e_b1 {f : N1} (hc : CallR X (.builtin id) (rC1 X.K f)) (hm : X.mg x = none) (hv : bootBuiltins x = some (.builtin id)) (ha : EE X W a ma) (hg : Gl X x := by rfl) (hn : x ≠ "__name__" := by decide) (hdb : (x == ("__debug__" : Str)) = false := by decide)
    (hs : starEach [a] X.env = (false, eval a X.env) :: starEach [] X.env := by rfl) : EE X W (.Call (.Name x p) [a] [] pos) (mUn f ma) :=
  (pe_callB hc hg hm hv (pa_cons ha pa_nil hs) hn hdb hs (by rfl)).mono fun σ H Q h => by
    obtain ⟨ρ, g, ι, er, s, p⟩ := one h
    exact ⟨ρ, g, ι, er, s, p.imp fun d1 g1 H1 ι1 _ x1 s1 p1 v1 r1 => ⟨v1, rfl, p1 v1 r1⟩⟩
theorem e_t1 {f : N1} (hc : CallR X (.type T) (rC1 X.K f)) (hm : X.mg x = none) (hv : bootBuiltins x = some (.type T)) (ha : EE X W a ma) (hg : Gl X x := by rfl) (hn : x ≠ "__name__" := by decide) (hdb : (x == ("__debug__" : Str)) = false := by decide)
    (hs : starEach [a] X.env = (false, eval a X.env) :: starEach [] X.env := by rfl) : EE X W (.Call (.Name x p) [a] [] pos) (mUn f ma) :=
  (pe_callTy hc hg hm hv (pa_cons ha pa_nil hs) hn hdb hs (by rfl)).mono fun σ H Q h => by
    obtain ⟨ρ, g, ι, er, s, p⟩ := one h
    exact ⟨ρ, g, ι, er, s, p.imp fun d1 g1 H1 ι1 _ x1 s1 p1 v1 r1 => ⟨v1, rfl, p1 v1 r1⟩⟩
theorem e_b2 {f : N2} (hc : CallR X (.builtin id) (rC2 X.K f)) (hm : X.mg x = none) (hv : bootBuiltins x = some (.builtin id)) (ha : EE X W a ma) (hb : EE X W b mb) (hg : Gl X x := by rfl) (hn : x ≠ "__name__" := by decide) (hdb : (x == ("__debug__" : Str)) = false := by decide)
    (hs : starEach [a, b] X.env = (false, eval a X.env) :: starEach [b] X.env := by rfl) (hs' : starEach [b] X.env = (false, eval b X.env) :: starEach [] X.env := by rfl) (hp : (backTo pos (starEach [b] X.env)).any (·.1) = false := by rfl) : EE X W (.Call (.Name x p) [a, b] [] pos) (mOp f ma mb) :=
  (pe_callB hc hg hm hv (pa_cons ha (pa_cons hb pa_nil hs') hs) hn hdb hs hp).mono fun σ H Q h => by
    obtain ⟨ρ, g, ι, er, s, p⟩ := two h
    refine ⟨ρ, g, ι, er, s, p.imp fun d1 g1 H1 ι1 _ x1 s1 p1 v1 r1 => ?_⟩
    obtain ⟨ρ2, g2, ι2, er2, s2, p2⟩ := p1 v1 r1
    exact ⟨ρ2, g2, ι2, er2, s2, p2.imp fun d3 g3 H3 ι3 _ x3 s3 p3 v3 r3 => ⟨v1, v3, rfl, p3 v3 r3⟩⟩
theorem c_int : CallR X (.type "int") (rC1 X.K (p1 oInt)) := by
  intro pins s σ H xs us Q I r h
  obtain ⟨x, rfl, h⟩ := h
  obtain ⟨d1, g, ι, sr, r1, d, e, k⟩ := h.pure
  cases r1 with
  | int i => cases e; exact call_int1 pins s σ H _ us Q I r (.inl ⟨i, rfl, k _ (.int _)⟩)
  | bl b => cases e; exact call_int1 pins s σ H _ us Q I r (.inr ⟨b, rfl, k _ (.int _)⟩)
  | _ => simp [oInt] at e
theorem c_len : CallR X (.builtin "len") (rC1 X.K (p1 oLen)) := by
  intro pins s σ H xs us Q I r h
  obtain ⟨x, rfl, h⟩ := h
  obtain ⟨d1, g, ι, sr, r1, d, e, k⟩ := h.pure
  simp only [oLen, Option.map_eq_some_iff] at e
  obtain ⟨n, e, rfl⟩ := e
  cases r1 with
  | str z =>
    unfold lenD at e
    dsimp only at e
    split at e
    · rename_i hl
      cases e
      refine call_len_str pins s σ H _ us Q I r ⟨sS z, rfl, by rw [sS_length, line_eq]; exact hl, ?_⟩
      rw [sS_length]
      exact k _ (.int _)
    · cases e
  | @tup ds vs p ht hr =>
    cases e
    refine call_len_seq pins s σ H _ us Q I r ⟨p, vs, rfl, .inr ht, ?_⟩
    rw [← hr.len]
    exact k _ (.int _)
  | @ref q p hp =>
    simp only [lenD, Option.map_eq_some_iff] at e
    obtain ⟨xs, h1, rfl⟩ := e
    obtain ⟨a', vs, ee, hq, hr⟩ := sr.list (.ref hp) h1
    cases ee
    refine call_len_seq pins s σ H _ us Q I r ⟨p, vs, rfl, .inl hq, ?_⟩
    rw [← hr.len]
    exact k _ (.int _)
  | _ => simp [lenD] at e
theorem c_ord : CallR X (.builtin "ord") (rC1 X.K (p1 oOrd)) := by
  intro pins s σ H xs us Q I r h
  obtain ⟨x, rfl, h⟩ := h
  obtain ⟨d1, g, ι, sr, r1, d, e, k⟩ := h.pure
  cases r1 with
  | str z =>
    unfold oOrd at e
    split at e
    · rename_i c hc
      cases hc
      cases e
      exact call_ord pins s σ H _ us Q I r ⟨sS [c], rfl, rfl, k _ (.int _)⟩
    · cases e
  | _ => simp [oOrd] at e
theorem c_min (hc : X.calm = true) : CallR X (.builtin "min") (rC2 X.K (p2 oMin)) := by
  intro pins s σ H xs us Q I r h
  obtain ⟨x, y, rfl, h⟩ := h
  obtain ⟨d1, d2, g, ι, sr, r1, r2, d, e, k⟩ := h.pure
  cases d1 <;> cases d2 <;> simp [oMin] at e
  cases r1
  cases r2
  exact call_min2 hc pins s σ H _ us Q I r ⟨_, _, rfl, k _ (by rw [← e]; exact .int _)⟩
theorem c_max (hc : X.calm = true) : CallR X (.builtin "max") (rC2 X.K (p2 oMax)) := by
  intro pins s σ H xs us Q I r h
  obtain ⟨x, y, rfl, h⟩ := h
  obtain ⟨d1, d2, g, ι, sr, r1, r2, d, e, k⟩ := h.pure
  cases d1 <;> cases d2 <;> simp [oMax] at e
  cases r1
  cases r2
  exact call_max2 hc pins s σ H _ us Q I r ⟨_, _, rfl, k _ (by rw [← e]; exact .int _)⟩
theorem c_tuple : CallR X (.type "tuple") (rC1 X.K oTuple) := by
  intro pins s σ H xs us Q I r h
  obtain ⟨x, rfl, d1, g, ι, sr, r1, d, g', e, k⟩ := h
  simp only [oTuple, Option.map_eq_some_iff] at e
  obtain ⟨ds, e, h2⟩ := e
  cases h2
  cases r1 with
  | @tup ds' vs p ht hr => cases e; exact call_tuple_of pins s σ H _ us Q I r ⟨p, vs, rfl, .inr ⟨ht, k _ H ι Ext.refl sr (.tup ht hr)⟩⟩
  | @ref q p hp =>
    obtain ⟨a', vs, ee, hq, hr⟩ := sr.list (.ref hp) (by unfold lstOf; unfold seqOf at e; exact e)
    cases ee
    exact call_tuple_of pins s σ H _ us Q I r ⟨p, vs, rfl, .inl ⟨hq, newT_post sr hr k⟩⟩
  | _ => simp [seqOf] at e
theorem c_list : CallR X (.type "list") (rC1 X.K oList) := by
  intro pins s σ H xs us Q I r h
  obtain ⟨x, rfl, d1, g, ι, sr, r1, d, g', e, k⟩ := h
  simp only [oList, Option.map_eq_some_iff] at e
  obtain ⟨ds, e, h2⟩ := e
  cases h2
  obtain ⟨p, vs, rfl, hq, hr⟩ := sr.seq r1 e
  exact call_list_of pins s σ H _ us Q I r ⟨p, vs, rfl, hq, newL_post sr hr k⟩
/-! ### isinstance -/
def tyName : Ty → String | .int => "int" | .bool => "bool" | .str => "str" | .tuple => "tuple" | .list => "list"
def tyName' : Option Ty → String | none => "NoneType" | some t => tyName t
theorem kit_ty' (t : Ty) (u : Option Ty) : kitB (tyName' u) (tyName t) = some (isTy t u) := by
  cases t <;> cases u <;> first
    | decide +kernel
    | (rename_i w; cases w <;> decide +kernel)
theorem tyx_of {K H ι g} {d : D} {v : V} {u : Option Ty} (s : SR_ K H ι g) (r : Rep K H ι d v) (h : tyOf d g = some u) : TyX K H v (.type (tyName' u)) := by
  cases r with
  | non => cases h; exact .base .non
  | bl b => cases h; exact .base (.bl b)
  | int i => cases h; exact .base (.int i)
  | str x => cases h; exact .base (.str _)
  | @tup ds vs a ht hr =>
    cases h
    rcases ht with (ht | ⟨o, ht⟩) | ⟨o, its, n, h1, h2, _⟩
    · exact .base (.tup ht)
    · exact .fTuple ht
    · exact .kTuple h1 h2
  | @ref q a ha =>
    unfold tyOf at h
    dsimp only at h
    split at h
    · rename_i xs e
      cases h
      obtain ⟨vs, h1, _⟩ := s.lst ha e
      exact .base (.lst h1)
    · rename_i xs e
      cases h
      obtain ⟨vs, h1, _⟩ := s.frz ha e
      rcases h1 with ⟨o, h1⟩ | ⟨o, its, n, h1, h2, _⟩
      · exact .base (.frz h1)
      · exact .kList h1 h2
    · cases h
theorem e_isi (t : Ty) {y : Str} {p' : Pos} (hm : X.mg "isinstance" = none) (hm' : X.mg y = none) (hv' : bootBuiltins y = some (.type (tyName t))) (ha : EE X W a ma) (hg : Gl X "isinstance" := by rfl) (hg' : Gl X y := by rfl) (hn' : y ≠ "__name__" := by decide) (hdb' : (y == ("__debug__" : Str)) = false := by decide)
    (hs : starEach [a, .Name y p'] X.env = (false, eval a X.env) :: starEach [.Name y p'] X.env := by rfl) (hs' : starEach [.Name y p'] X.env = (false, eval (.Name y p') X.env) :: starEach [] X.env := by rfl)
    (hp : (backTo pos (starEach [.Name y p'] X.env)).any (·.1) = false := by rfl) : EE X W (.Call (.Name "isinstance" p) [a, .Name y p'] [] pos) (mUn (p1 (oIsi t)) ma) := by
  have hb : PE X (.Name y p') (tC (.ty (tyName t))) := pe_bltn hg' hm' hv' rfl hn' hdb'
  refine (pe_callB call_isi hg hm (by decide +kernel) (pa_cons ha (pa_cons hb pa_nil hs') hs) (by decide) (by decide) hs hp).mono fun σ H Q h => ?_
  obtain ⟨ρ, g, ι, er, s, q⟩ := one h
  refine ⟨ρ, g, ι, er, s, q.imp fun d1 g1 H1 ι1 _ x1 s1 q1 v1 r1 => ?_⟩
  obtain ⟨d2, g2, ι2, s2, r2, d, e, k⟩ := (q1 v1 r1).pure
  simp only [oIsi, Option.map_eq_some_iff] at e
  obtain ⟨u, e, rfl⟩ := e
  exact ⟨v1, .ty (tyName t), .type (tyName' u), .type (tyName t), isTy t u, rfl, ClsV.ty _, tyx_of s2 r2 e, kit_ty (kit_ty' t u), k _ (.bl _)⟩
/-! ### append -/
theorem e_app {apos : Pos} {o : Expr} {mo : M} (ho : EE X W o mo) (he : EE X W e m)
    (hbase : attributeBase o "append" X.env (eval o X.env) = eval o X.env := by rfl)
    (hfew : ((backTo pos (starEach [e] X.env)).all (fun x => !x.1) && (backToKw pos (keywordEach [] X.env)).all (fun x => x.1.isSome) && decide ([e].length + ([] : List Keyword).length + (if ([] : List Keyword).isEmpty then 0 else 1) < 30)) = true := by rfl)
    (hline : (apos.endLine == pos.line) = true := by rfl) (hs : starEach [e] X.env = (false, eval e X.env) :: starEach [] X.env := by rfl) : EE X W (.Call (.Attribute o "append" apos) [e] [] pos) (mApp mo m) := by
  refine (pe_bm PySem.F.plainAttrs_list PySem.F.slot_list_append PySem.F.type_list_append mt_append ho (pa_cons he pa_nil hs) hbase hfew hline hs (by rfl)).mono fun σ H Q ⟨ρ, g, ι, er, s, p⟩ => ?_
  refine ⟨ρ, g, ι, er, s, (Post.bind p).imp fun d1 g1 H1 ι1 _ x1 s1 p1 v1 r1 => ?_⟩
  split at p1
  · rename_i hl
    obtain ⟨xs, hx⟩ := Option.isSome_iff_exists.mp hl
    obtain ⟨a', vs, e1, hq, hr⟩ := s1.list r1 hx
    subst e1
    refine ⟨.inl ⟨rfl, vs, hq⟩, ρ, g1, ι1, er.ext x1, s1, (Post.bind p1).imp fun d2 g2 H2 ι2 _ x2 s2 p2 v2 r2 => ?_⟩
    obtain ⟨d, g', e2, k⟩ := p2.ofO
    unfold oAppend at e2
    split at e2
    · rename_i r ys hm
      split at e2
      · rename_i hz
        cases e2
        obtain ⟨e3, hg⟩ := mutOf_inv hm
        subst e3
        have r1' := r1.ext x2
        cases r1' with
        | ref ha =>
          obtain ⟨ws, h1, h2⟩ := s2.lst ha hg
          refine ⟨a', ws, v2, rfl, rfl, h1, by rw [← h2.len, line_eq]; exact hz, ?_⟩
          exact k _ ι2 (Ext.wr h1) (s2.wrL hg ha (h2.append (.cons r2 .nil)) h1) _ .non
      · cases e2
    · cases e2
  · exact p1.elim
end
end Py
namespace Py
open PySem L2
/-! ### the greatest, the least -/
section
variable {X : Cx}
theorem allI_some : ∀ {ds : List D} {is : List Int}, allI ds = some is → ds = is.map D.int
  | [], is, h => by cases h; rfl
  | d :: r, is, h => by
    cases d with
    | int i =>
      simp only [allI, Option.map_eq_some_iff] at h
      obtain ⟨js, h1, rfl⟩ := h
      rw [allI_some h1]; rfl
    | _ => cases h
theorem reps_ints {K H ι} : ∀ {is : List Int} {vs : List V}, Reps K H ι (is.map D.int) vs → vs = is.map V.int
  | [], _, r => by cases r; rfl
  | i :: is, _, r => by
    cases r with
    | cons h t => cases h; rw [reps_ints t]; rfl
theorem maxI_is : ∀ {is : List Int} {m : Int}, maxI is = some m → m ∈ is ∧ ∀ y ∈ is, y ≤ m
  | [], m, h => by cases h
  | i :: r, m, h => by
    unfold maxI at h
    cases hr : maxI r with
    | none =>
      rw [hr] at h
      cases h
      cases r with
      | nil => simp
      | cons j r => unfold maxI at hr; split at hr <;> cases hr
    | some k =>
      rw [hr] at h
      obtain ⟨h1, h2⟩ := maxI_is hr
      have h' : (if i < k then k else i) = m := Option.some.inj h
      by_cases hik : i < k
      · rw [if_pos hik] at h'
        subst h'
        exact ⟨List.mem_cons_of_mem _ h1, fun y hy => (List.mem_cons.mp hy).elim (fun e => by omega) (h2 y)⟩
      · rw [if_neg hik] at h'
        subst h'
        exact ⟨List.mem_cons_self, fun y hy => (List.mem_cons.mp hy).elim (fun e => by omega) fun z => by have := h2 y z; omega⟩
theorem minI_is : ∀ {is : List Int} {m : Int}, minI is = some m → m ∈ is ∧ ∀ y ∈ is, m ≤ y
  | [], m, h => by cases h
  | i :: r, m, h => by
    unfold minI at h
    cases hr : minI r with
    | none =>
      rw [hr] at h
      cases h
      cases r with
      | nil => simp
      | cons j r => unfold minI at hr; split at hr <;> cases hr
    | some k =>
      rw [hr] at h
      obtain ⟨h1, h2⟩ := minI_is hr
      have h' : (if k < i then k else i) = m := Option.some.inj h
      by_cases hik : k < i
      · rw [if_pos hik] at h'
        subst h'
        exact ⟨List.mem_cons_of_mem _ h1, fun y hy => (List.mem_cons.mp hy).elim (fun e => by omega) (h2 y)⟩
      · rw [if_neg hik] at h'
        subst h'
        exact ⟨List.mem_cons_self, fun y hy => (List.mem_cons.mp hy).elim (fun e => by omega) fun z => by have := h2 y z; omega⟩
/-- max, min of a tuple of ints, over the heap -/
theorem best_tup {P : Program} {w : World} {A : Around} {E : Value → Shared → Prop} {s : Shared} {l : Addr} {xs : Array (Int × Tok)} {Q : Value → Shared → Prop} (hh : A.handled = none) (hl : s.heap.IsTuple l (intItems xs)) (hne : 0 < xs.size) :
    ((∀ v h' tk, (intItems xs)[argBest (fun i j => decide (numAt xs i > numAt xs j)) (xs.size - 1)]? = some v → (∀ b o, s.heap.get? b = some o → h'.get? b = some o) → Q v { s with heap := h', toks := tk }) → wpAny (model P w) A (call (.builtin "max") [.ref l]) Q E s) ∧
    ((∀ v h' tk, (intItems xs)[argBest (fun i j => decide (numAt xs i < numAt xs j)) (xs.size - 1)]? = some v → (∀ b o, s.heap.get? b = some o → h'.get? b = some o) → Q v { s with heap := h', toks := tk }) → wpAny (model P w) A (call (.builtin "min") [.ref l]) Q E s) := by
  have hlt : l < s.heap.objs.size := by obtain ⟨_, e, _⟩ := hl; exact Heap.lt_size e
  have hl2 : ∀ x, (s.heap.push x).IsTuple l (intItems xs) := fun x => by
    obtain ⟨o, e, q⟩ := hl
    exact ⟨o, Heap.get?_push_of_some _ e, q⟩
  have fp : ∀ x, ∀ b ∈ [s.heap.objs.size, l], b < (s.heap.push x).objs.size := fun x b hb => by
    rw [Heap.size_push]
    rcases List.mem_cons.mp hb with e | hb
    · rw [e]; exact Nat.lt_succ_self _
    · rw [List.mem_singleton.mp hb]; exact Nat.lt_succ_of_lt hlt
  have old : ∀ {h' : Heap} {x : Obj}, (∀ b o, b ∉ [s.heap.objs.size] → (s.heap.push x).get? b = some o → h'.get? b = some o) → ∀ b o, s.heap.get? b = some o → h'.get? b = some o := fun {h' x} hk b o e =>
    hk b o (fun hm => absurd (Heap.lt_size e) (by rw [List.mem_singleton.mp hm]; exact Nat.lt_irrefl _)) (Heap.get?_push_of_some _ e)
  have st : (s.heap.push { cls := .type "tuple_iterator", data := .fields #[.ref l, .int 0 0] }).IsTupleIter s.heap.objs.size l 0 := ⟨_, Heap.get?_push_size _ rfl, rfl, rfl⟩
  have sz : 0 < (intItems xs).size := by simpa [intItems] using hne
  have eqsz : (intItems xs).size = xs.size := by simp [intItems]
  refine ⟨fun h => call_max_walk (wpAny_pyIter_tuple hl ?_), fun h => call_min_walk (wpAny_pyIter_tuple hl ?_)⟩
  · refine ⟨_, _, _, _, _, _, _, rfl, Walks.tuple (A := A.in1) hh s.heap.objs.size l (Nat.ne_of_lt hlt) (intItems xs), ⟨st, hl2 _⟩, fp _, sz, CmpOf.ints_gt (numAt xs) (fun _ _ => intItems_at), fun v h' tk hP hk => ?_⟩
    rw [eqsz] at hP
    exact h v h' tk hP (old hk)
  · refine ⟨_, _, _, _, _, _, _, rfl, Walks.tuple (A := A.in1) hh s.heap.objs.size l (Nat.ne_of_lt hlt) (intItems xs), ⟨st, hl2 _⟩, fp _, sz, CmpOf.ints_lt (numAt xs) (fun _ _ => intItems_at), fun v h' tk hP hk => ?_⟩
    rw [eqsz] at hP
    exact h v h' tk hP (old hk)
/-- .. told by the ints -/
theorem best_ints {P : Program} {w : World} {A : Around} {E : Value → Shared → Prop} {s : Shared} {l : Addr} {its : List Value} {ns : List Int} {Q : Value → Shared → Prop} (hh : A.handled = none) (hl : s.heap.IsTuple l its.toArray) (hi : PyProof.Rows.IntsAre its ns) (hne : 0 < ns.length) :
    ((∀ h' tk M t', (∀ b o, s.heap.get? b = some o → h'.get? b = some o) → M ∈ ns → (∀ a, a ∈ ns → a ≤ M) → Q (.int M t') { s with heap := h', toks := tk }) → wpAny (model P w) A (call (.builtin "max") [.ref l]) Q E s) ∧
    ((∀ h' tk M t', (∀ b o, s.heap.get? b = some o → h'.get? b = some o) → M ∈ ns → (∀ a, a ∈ ns → M ≤ a) → Q (.int M t') { s with heap := h', toks := tk }) → wpAny (model P w) A (call (.builtin "min") [.ref l]) Q E s) := by
  obtain ⟨xs, e⟩ := hi.allInts.items
  have hn : numsOf (intItems xs).toList = ns := by rw [← e]; exact hi.numsOf
  rw [nums_intItems] at hn
  subst hn
  rw [e] at hl
  have hsz : 0 < xs.size := by simpa using hne
  obtain ⟨b1, b2⟩ := best_tup (P := P) (w := w) (E := E) (Q := Q) hh hl hsz
  have mem : ∀ j, j ≤ xs.size - 1 → numAt xs j ∈ xs.toList.map (·.1) := fun j hj => by
    rw [numAt_eq]
    exact PySem.getD_mem (by rw [List.length_map, Array.length_toList]; omega)
  have all : ∀ a ∈ xs.toList.map (·.1), ∃ j, j ≤ xs.size - 1 ∧ numAt xs j = a := fun a ha => by
    obtain ⟨j, hj, q⟩ := mem_getD ha
    rw [List.length_map, Array.length_toList] at hj
    exact ⟨j, by omega, by rw [numAt_eq]; exact q⟩
  refine ⟨fun h => b1 fun v h' tk hv hk => ?_, fun h => b2 fun v h' tk hv hk => ?_⟩
  · obtain ⟨t, rfl⟩ := intItems_at hv
    obtain ⟨h1, h2⟩ := argBest_gt (numAt xs) (xs.size - 1)
    exact h h' tk _ t hk (mem _ h1) fun a ha => by
      obtain ⟨j, hj, rfl⟩ := all a ha
      exact h2 j hj
  · obtain ⟨t, rfl⟩ := intItems_at hv
    obtain ⟨h1, h2⟩ := argBest_lt (numAt xs) (xs.size - 1)
    exact h h' tk _ t hk (mem _ h1) fun a ha => by
      obtain ⟨j, hj, rfl⟩ := all a ha
      exact h2 j hj
theorem maxI_uniq {is : List Int} {m k : Int} (h : maxI is = some m) (h1 : k ∈ is) (h2 : ∀ y ∈ is, y ≤ k) : k = m := by
  obtain ⟨a, b⟩ := maxI_is h
  have := b k h1
  have := h2 m a
  omega
theorem minI_uniq {is : List Int} {m k : Int} (h : minI is = some m) (h1 : k ∈ is) (h2 : ∀ y ∈ is, k ≤ y) : k = m := by
  obtain ⟨a, b⟩ := minI_is h
  have := b k h1
  have := h2 m a
  omega
theorem oMaxL_some {x : D} {g : G} {d : D} (h : oMaxL x g = some d) : ∃ is m, seqOf x g = some (is.map D.int) ∧ maxI is = some m ∧ d = .int m := by
  unfold oMaxL at h
  cases hs : seqOf x g with
  | none => rw [hs] at h; cases h
  | some ds =>
    rw [hs, Option.bind_some] at h
    cases ha : allI ds with
    | none => rw [ha] at h; cases h
    | some is =>
      rw [ha, Option.bind_some, Option.map_eq_some_iff] at h
      obtain ⟨m, h1, rfl⟩ := h
      exact ⟨is, m, by rw [allI_some ha], h1, rfl⟩
theorem oMinL_some {x : D} {g : G} {d : D} (h : oMinL x g = some d) : ∃ is m, seqOf x g = some (is.map D.int) ∧ minI is = some m ∧ d = .int m := by
  unfold oMinL at h
  cases hs : seqOf x g with
  | none => rw [hs] at h; cases h
  | some ds =>
    rw [hs, Option.bind_some] at h
    cases ha : allI ds with
    | none => rw [ha] at h; cases h
    | some is =>
      rw [ha, Option.bind_some, Option.map_eq_some_iff] at h
      obtain ⟨m, h1, rfl⟩ := h
      exact ⟨is, m, by rw [allI_some ha], h1, rfl⟩
theorem c_maxL (hc : X.calm = true) : CallR X (.builtin "max") (rC1 X.K (p1 oMaxL)) := by
  intro pins s σ H xs us Q I r h
  obtain ⟨x, rfl, h⟩ := h
  obtain ⟨d1, g, ι, sr, r1, d, e, k⟩ := h.pure
  obtain ⟨is, m, h1, h2, rfl⟩ := oMaxL_some e
  obtain ⟨p, vs, rfl, hq, hr⟩ := sr.seq r1 h1
  cases reps_ints hr
  have hne : 0 < is.length := by cases is with
    | nil => cases h2
    | cons _ _ => simp
  rcases hq with hq | hq
  · exact cr_max hc pins s σ H _ us Q I r ⟨p, is, rfl, hq, hne, fun k' k1 k2 => by rw [maxI_uniq h2 k1 k2]; exact k _ (.int _)⟩
  · obtain ⟨its, rv, ht, _⟩ := I.tuple hq
    rw [Vals.ref1 r]
    exact (best_ints (I.ok.hd hc) ht rv.ints hne).1 fun h' tk M t' hk k1 k2 => ⟨.int M, H, I.kept hk, ⟨_, rfl⟩, by rw [maxI_uniq h2 k1 k2]; exact k _ (.int _)⟩
theorem c_minL (hc : X.calm = true) : CallR X (.builtin "min") (rC1 X.K (p1 oMinL)) := by
  intro pins s σ H xs us Q I r h
  obtain ⟨x, rfl, h⟩ := h
  obtain ⟨d1, g, ι, sr, r1, d, e, k⟩ := h.pure
  obtain ⟨is, m, h1, h2, rfl⟩ := oMinL_some e
  obtain ⟨p, vs, rfl, hq, hr⟩ := sr.seq r1 h1
  cases reps_ints hr
  have hne : 0 < is.length := by cases is with
    | nil => cases h2
    | cons _ _ => simp
  rcases hq with hq | hq
  · exact cr_min hc pins s σ H _ us Q I r ⟨p, is, rfl, hq, hne, fun k' k1 k2 => by rw [minI_uniq h2 k1 k2]; exact k _ (.int _)⟩
  · obtain ⟨its, rv, ht, _⟩ := I.tuple hq
    rw [Vals.ref1 r]
    exact (best_ints (I.ok.hd hc) ht rv.ints hne).2 fun h' tk M t' hk k1 k2 => ⟨.int M, H, I.kept hk, ⟨_, rfl⟩, by rw [minI_uniq h2 k1 k2]; exact k _ (.int _)⟩
end
end Py
end

section
set_option Elab.async false
set_option linter.all false
set_option maxRecDepth 100000
set_option autoImplicit false
/-! Soundness of loops, targets, comprehensions, statements, defs. -/
namespace Py
open PySem L2
section
variable {K : PySem.W.Frag} {mg : Str → Option Value} {W : WX} {σ : St} {H H' : Hp} {ι ι' : List Addr}
/-! ### iterators -/
def Sim (K : PySem.W.Frag) (H0 : Hp) (ι0 : List Addr) (J : It) (it : Iter) : Prop := ∀ (i : Nat) (H : Hp) (g : G) (ι : List Addr), Ext K H0 H ι0 ι → SR_ K H ι g →
  (it.get i g = some none → J.stop i H) ∧ ∀ d, it.get i g = some (some d) → J.go i H ∧ ∀ x H', J.yld i H x H' → Ext K H H' ι ι ∧ SR_ K H' ι g ∧ Rep K H' ι d x
def tI (K : PySem.W.Frag) (mg : Str → Option Value) (W : WX) (w : I) : TI := fun σ H R => ∃ ρ g ι, ER K H ι ρ σ ∧ SR_ K H ι g ∧ Post K mg W σ H ι (w ρ g) fun it _ H' ι' => ∀ J, Sim K H' ι' J it → R J H'
theorem sim_list {r : Nat} {a : Addr} {n : Nat} (ha : ι[r]? = some a) : Sim K H ι (Itl K a) (itR r n) := by
  intro i H1 g ι1 x s
  have ha1 := x.pre r a ha
  refine ⟨fun h => ?_, fun d h => ?_⟩
  · simp only [itR, Option.map_eq_some_iff] at h
    obtain ⟨xs, h1, h2⟩ := h
    obtain ⟨a', vs, e, hq, hr⟩ := s.list (.ref ha1) h1
    cases e
    refine ⟨vs, hq, ?_⟩
    have := List.getElem?_eq_none_iff.mp h2
    rw [← hr.len]; exact this
  · simp only [itR, Option.map_eq_some_iff] at h
    obtain ⟨xs, h1, h2⟩ := h
    obtain ⟨a', vs, e, hq, hr⟩ := s.list (.ref ha1) h1
    cases e
    obtain ⟨v, h3, h4⟩ := hr.get h2
    refine ⟨⟨vs, v, hq, h3⟩, fun y H' hy => ?_⟩
    obtain ⟨rfl, hy⟩ := hy
    have := hy vs hq
    rw [h3] at this
    cases this
    exact ⟨Ext.refl, s, h4⟩
theorem sim_tup {a : Addr} {ds : List D} {vs : List V} (hq : SqT K H a vs) (hr : Reps K H ι ds vs) : Sim K H ι (Itt K a) (itL ds) := by
  intro i H1 g ι1 x s
  have hq1 := x.tup a vs hq
  have hr1 := hr.ext x
  refine ⟨fun h => ?_, fun d h => ?_⟩
  · have h' : ds[i]? = none := Option.some.inj h
    refine ⟨vs, hq1, ?_⟩
    rw [← hr.len]; exact List.getElem?_eq_none_iff.mp h'
  · have h' : ds[i]? = some d := Option.some.inj h
    obtain ⟨v, h3, h4⟩ := hr1.get h'
    refine ⟨⟨vs, v, hq1, h3⟩, fun y H' hy => ?_⟩
    obtain ⟨rfl, hy⟩ := hy
    have := hy vs hq1
    rw [h3] at this
    cases this
    exact ⟨Ext.refl, s, h4⟩
theorem sim_str {z : List Char} : Sim K H ι (Its (sS z)) (itL (z.map fun c => .str [c])) := by
  intro i H1 g ι1 x s
  have hz : (sS z).cps.size = z.length := sS_length z
  refine ⟨fun h => ?_, fun d h => ?_⟩
  · have h' : (z.map fun c => D.str [c])[i]? = none := Option.some.inj h
    have := List.getElem?_eq_none_iff.mp h'
    rw [List.length_map] at this
    show (sS z).cps.size ≤ i
    omega
  · have h' : (z.map fun c => D.str [c])[i]? = some d := Option.some.inj h
    rw [List.getElem?_map, Option.map_eq_some_iff] at h'
    obtain ⟨c, h1, rfl⟩ := h'
    have hl := (List.getElem?_eq_some_iff.mp h1).1
    refine ⟨show i < (sS z).cps.size by omega, fun y H' hy => ?_⟩
    obtain ⟨rfl, c', h2, rfl⟩ := hy
    have e : (sS z).cps[i]? = some c.toNat := by
      rw [← Array.getElem?_toList, sS_list, List.getElem?_map, h1]; rfl
    rw [e] at h2
    cases h2
    exact ⟨Ext.refl, s, .str [c]⟩
theorem rng_get (lo : Int) (n i : Nat) : (rng lo n)[i]? = if i < n then some (.int (lo + i)) else none := by
  unfold rng
  rw [List.getElem?_map]
  by_cases h : i < n
  · rw [if_pos h, List.getElem?_range h]; rfl
  · rw [if_neg h, List.getElem?_eq_none (by simp; omega)]; rfl
theorem sim_rng {lo : Int} {n : Nat} : Sim K H ι (Itr lo n) (itL (rng lo n)) := by
  intro i H1 g ι1 x s
  refine ⟨fun h => ?_, fun d h => ?_⟩
  · have h' : (rng lo n)[i]? = none := Option.some.inj h
    rw [rng_get] at h'
    show n ≤ i
    by_cases hi : i < n
    · rw [if_pos hi] at h'; cases h'
    · omega
  · have h' : (rng lo n)[i]? = some d := Option.some.inj h
    rw [rng_get] at h'
    by_cases hi : i < n
    · rw [if_pos hi] at h'
      cases h'
      refine ⟨hi, fun y H' hy => ?_⟩
      obtain ⟨rfl, rfl⟩ := hy
      exact ⟨Ext.refl, s, .int _⟩
    · rw [if_neg hi] at h'; cases h'
end
section
variable {X : Cx} {W : WX} {tg a b c e : Expr} {es : List Expr} {pos : Pos} {ma mb m : M}
abbrev II (X : Cx) (W : WX) (tg e : Expr) (w : I) : Prop := PI X tg e (tI X.K X.mg W w)
theorem i_any (h : EE X W e m) : II X W tg e (iAny m) := by
  refine ⟨fun pins s σ H R I ⟨ρ, g, ι, er, sr, p⟩ => ?_⟩
  unfold iAny at p
  cases hm : m ρ g with
  | bad => rw [hm] at p; exact p.elim
  | exc x g1 =>
    refine (pi_list (tg := tg) h).run pins s σ H R I ⟨ρ, g, ι, er, sr, ?_⟩
    rw [hm] at p ⊢
    exact p
  | ok d g1 =>
    rw [hm, Py.R.bind_ok] at p
    cases d with
    | tup ds =>
      refine (pi_tup (tg := tg) h).run pins s σ H R I ⟨ρ, g, ι, er, sr, ?_⟩
      rw [hm]
      intro H' ι' x s' v r
      cases r with
      | @tup _ vs q ht hr => exact ⟨q, rfl, ⟨vs, ht⟩, p H' ι' x s' _ (sim_tup ht hr)⟩
    | str z =>
      refine (pi_str (tg := tg) h).run pins s σ H R I ⟨ρ, g, ι, er, sr, ?_⟩
      rw [hm]
      intro H' ι' x s' v r
      cases r
      exact ⟨sS z, rfl, p H' ι' x s' _ sim_str⟩
    | ref rr =>
      refine (pi_list (tg := tg) h).run pins s σ H R I ⟨ρ, g, ι, er, sr, ?_⟩
      rw [hm]
      intro H' ι' x s' v r
      unfold iterOf at p
      dsimp only at p
      cases hl : lstOf (.ref rr) g1 with
      | none => rw [hl] at p; exact p.elim
      | some xs =>
        rw [hl] at p
        obtain ⟨a', vs, e1, hq, hr⟩ := s'.list r hl
        subst e1
        cases r with
        | ref ha => exact ⟨a', rfl, ⟨vs, hq⟩, p H' ι' x s' _ (sim_list ha)⟩
    | _ => exact p.elim
theorem SMALL_eq : SMALL = 2 ^ 62 := by rw [SMALL_is]; decide
theorem i_range1 {p pos : Pos} (hm : X.mg "range" = none) (ha : EE X W a ma) (hg : Gl X "range" := by rfl) (hs : starEach [a] X.env = [(false, eval a X.env)] := by rfl) : II X W tg (.Call (.Name "range" p) [a] [] pos) (iRange1 ma) :=
  (pi_range1 hg hm (pa_cons ha pa_nil hs) hs).mono fun σ H R ⟨ρ, g, ι, er, sr, p⟩ => by
    refine ⟨ρ, g, ι, er, sr, (Post.bind p).imp fun d1 g1 H1 ι1 _ x1 s1 p1 v1 r1 => ?_⟩
    cases r1 with
    | int j =>
      dsimp only at p1
      split at p1
      · rename_i hj
        rw [SMALL_eq] at hj
        exact ⟨j, rfl, hj.1, hj.2, p1.ok s1 _ sim_rng⟩
      · exact p1.elim
    | _ => exact p1.elim
theorem i_range2 {p pos : Pos} (hm : X.mg "range" = none) (ha : EE X W a ma) (hb : EE X W b mb) (hg : Gl X "range" := by rfl) (hs : starEach [a, b] X.env = [(false, eval a X.env), (false, eval b X.env)] := by rfl)
    (hs2 : starEach [b] X.env = [(false, eval b X.env)] := by rfl) : II X W tg (.Call (.Name "range" p) [a, b] [] pos) (iRange2 ma mb) :=
  (pi_range2 hg hm (pa_cons ha (pa_cons hb pa_nil hs2) (by rw [hs, hs2])) hs hs2).mono fun σ H R ⟨ρ, g, ι, er, sr, p⟩ => by
    refine ⟨ρ, g, ι, er, sr, (Post.bind p).imp fun d1 g1 H1 ι1 _ x1 s1 p1 v1 r1 => ⟨ρ, g1, ι1, er.ext x1, s1, (Post.bind p1).imp fun d2 g2 H2 ι2 _ x2 s2 p2 v2 r2 => ?_⟩⟩
    have r1 := r1.ext x2
    cases r1 with
    | int i =>
      cases r2 with
      | int j =>
        dsimp only at p2
        split at p2
        · rename_i hj
          rw [SMALL_eq] at hj
          exact ⟨i, j, rfl, ⟨hj.1.1, hj.1.2, hj.2.1, hj.2.2⟩, p2.ok s2 _ sim_rng⟩
        · exact p2.elim
      | _ => exact p2.elim
    | _ => cases r2 <;> exact p2.elim
/-! ### targets -/
/-- but the slots in own nothing changes -/
def Keep (own : List Nat) (σ σ' : St) : Prop := σ'.length = σ.length ∧ ∀ i, i ∉ own → σ'[i]? = σ[i]?
theorem Keep.refl (own : List Nat) (σ : St) : Keep own σ σ := ⟨rfl, fun _ _ => rfl⟩
theorem Keep.trans {own : List Nat} {σ σ' σ2 : St} (a : Keep own σ σ') (b : Keep own σ' σ2) : Keep own σ σ2 := ⟨b.1.trans a.1, fun i h => (b.2 i h).trans (a.2 i h)⟩
def tG (K : PySem.W.Frag) (own : List Nat) (t : Tg) : TG := fun v σ H Q => ∃ d ρ g ι ρ', Rep K H ι d v ∧ ER K H ι ρ σ ∧ SR_ K H ι g ∧ t d ρ = some ρ' ∧ ∀ σ', ER K H ι ρ' σ' → Keep own σ σ' → Q σ' H
def tGs (K : PySem.W.Frag) (own : List Nat) (t : Tgs) : TGs := fun vs σ H Q => ∃ ds ρ g ι ρ', Reps K H ι ds vs ∧ ER K H ι ρ σ ∧ SR_ K H ι g ∧ t ds ρ = some ρ' ∧ ∀ σ', ER K H ι ρ' σ' → Keep own σ σ' → Q σ' H
abbrev GG (X : Cx) (own : List Nat) (e : Expr) (t : Tg) : Prop := PG X e (tG X.K own t)
structure GGs (X : Cx) (own : List Nat) (es : List Expr) (t : Tgs) (n : Nat) : Prop where
  run : PGs X es (tGs X.K own t)
  len : ∀ ds ρ ρ', t ds ρ = some ρ' → ds.length = n
theorem _root_.L2.PG.mono {e : Expr} {t t' : TG} (h : PG X e t) (i : ∀ v σ H Q, t' v σ H Q → t v σ H Q) : PG X e t' := ⟨fun pins s σ H v u Q I r q => h.run pins s σ H v u Q I r (i v σ H Q q)⟩
theorem _root_.L2.PGs.mono {e : List Expr} {t t' : TGs} (h : PGs X e t) (i : ∀ v σ H Q, t' v σ H Q → t v σ H Q) : PGs X e t' := ⟨fun pins s σ H v u Q I r q => h.run pins s σ H v u Q I r (i v σ H Q q)⟩
variable {own : List Nat}
theorem g_name (i : Nat) {x : Str} (hN : X.N.Nodup) (ho : i ∈ own := by decide) (hi : X.N[i]? = some x := by rfl) (hx : Loc X.env.scope x := by first | exact Or.inl rfl | exact Or.inr rfl) (hf : X.fn x = true ∨ X.env.scope.names.lookup x = some .local := by first | exact .inl rfl | exact .inr rfl | assumption) : GG X own (.Name x pos) (Py.gName i) :=
  (pg_name hN hi hx hf).mono fun v σ H Q ⟨d, ρ, g, ι, ρ', r, er, sr, h, k⟩ => by
    cases h
    exact k _ (er.set r i) ⟨by simp, fun j hj => List.getElem?_set_ne (fun (e : i = j) => hj (by rw [← e]; exact ho))⟩
theorem gs_nil : GGs X own [] Py.gNil 0 where
  run := pgs_nil.mono fun vs σ H Q ⟨ds, ρ, g, ι, ρ', r, er, sr, h, k⟩ => by
    cases r with
    | nil => cases h; exact ⟨rfl, k σ er (Keep.refl _ _)⟩
    | cons _ _ => cases h
  len := fun ds ρ ρ' h => by cases ds <;> simp [Py.gNil] at h ⊢
theorem gs_cons {t : Tg} {u : Tgs} {n : Nat} (h1 : GG X own e t) (h2 : GGs X own es u n) (hs : (assignEach (e :: es) X.env).map (·.2) = assign e X.env :: (assignEach es X.env).map (·.2) := by rfl) : GGs X own (e :: es) (Py.gCons t u) (n + 1) where
  run := (pgs_cons h1 h2.run hs).mono fun vs σ H Q ⟨ds, ρ, g, ι, ρ', r, er, sr, h, k⟩ => by
    cases r with
    | nil => cases h
    | @cons d v ds vs r1 r2 =>
      obtain ⟨ρ1, e1, e2⟩ := Option.bind_eq_some_iff.mp h
      exact ⟨v, vs, rfl, d, ρ, g, ι, ρ1, r1, er, sr, e1, fun σ' er' k1 => ⟨ds, ρ1, g, ι, ρ', r2, er', sr, e2, fun σ2 er2 k2 => k σ2 er2 (k1.trans k2)⟩⟩
  len := fun ds ρ ρ' h => by
    cases ds with
    | nil => cases h
    | cons d ds =>
      obtain ⟨ρ1, e1, e2⟩ := Option.bind_eq_some_iff.mp h
      simp [h2.len _ _ _ e2]
theorem g_tup {t : Tgs} {n k : Nat} (hc : X.calm = true) (h : GGs X own es t n) (hn : (assignEach es X.env).length = n := by rfl) (hst : (assignEach es X.env).findIdx? (·.1) = none := by rfl) : GG X own (.Tuple es k pos) (Py.gTup t) :=
  (pg_tup hc h.run hn hst).mono fun v σ H Q ⟨d, ρ, g, ι, ρ', r, er, sr, h', kk⟩ => by
    cases r with
    | @tup ds vs a ht hr => exact ⟨a, vs, rfl, ht, by rw [← hr.len]; exact h.len _ _ _ h', ds, ρ, g, ι, ρ', hr, er, sr, h', kk⟩
    | _ => cases h'
/-! ### statements -/
def PostS (K : PySem.W.Frag) (mg : Str → Option Value) (W : WX) (E : Ends) (H : Hp) (ι : List Addr) (r : SR) : Prop := match r with
  | .next ρ g => ∀ σ' H' ι', Ext K H H' ι ι' → SR_ K H' ι' g → ER K H' ι' ρ σ' → E.nx σ' H'
  | .brk ρ g => ∀ σ' H' ι', Ext K H H' ι ι' → SR_ K H' ι' g → ER K H' ι' ρ σ' → E.bk σ' H'
  | .cont ρ g => ∀ σ' H' ι', Ext K H H' ι ι' → SR_ K H' ι' g → ER K H' ι' ρ σ' → E.ct σ' H'
  | .ret d g => ∀ v H' ι', Ext K H H' ι ι' → SR_ K H' ι' g → Rep K H' ι' d v → E.rt v H'
  | .exc e ρ g => ∀ cls dx σ' H' ι', Ext K H H' ι ι' → SR_ K H' ι' g → ER K H' ι' ρ σ' → ExcR mg K H' ι' e cls dx → W cls dx σ' H'
  | .bad => False
def tS (K : PySem.W.Frag) (mg : Str → Option Value) (W : WX) (m : S) : TS := fun E σ H => ∃ ρ g ι, ER K H ι ρ σ ∧ SR_ K H ι g ∧ PostS K mg W E H ι (m ρ g)
abbrev SS (X : Cx) (W : WX) (st : Stmt) (m : S) : Prop := PS X st (tS X.K X.mg W m)
abbrev SSs (X : Cx) (W : WX) (sts : List Stmt) (m : S) : Prop := PSs X sts (tS X.K X.mg W m)
section
variable {K : PySem.W.Frag} {mg : Str → Option Value} {σ : St} {H H' : Hp} {ι ι' : List Addr} {E : Ends} {r : SR}
theorem PostS.ext (x : Ext K H H' ι ι') (p : PostS K mg W E H ι r) : PostS K mg W E H' ι' r := by
  cases r with
  | next ρ g => exact fun σ2 H2 ι2 y => p σ2 H2 ι2 (x.trans y)
  | brk ρ g => exact fun σ2 H2 ι2 y => p σ2 H2 ι2 (x.trans y)
  | cont ρ g => exact fun σ2 H2 ι2 y => p σ2 H2 ι2 (x.trans y)
  | ret d g => exact fun v H2 ι2 y => p v H2 ι2 (x.trans y)
  | exc e ρ g => exact fun c d σ2 H2 ι2 y => p c d σ2 H2 ι2 (x.trans y)
  | bad => exact p
theorem PostS.next {ρ : Env} {g : G} (p : PostS K mg W E H ι (.next ρ g)) (s : SR_ K H ι g) (er : ER K H ι ρ σ) : E.nx σ H := p σ H ι Ext.refl s er
/-- from an expression -/
theorem PostS.onR {α : Type} {o : R α} {k : α → G → SR} {ρ : Env} (er : ER K H ι ρ σ) (p : PostS K mg W E H ι (onR o ρ k)) : Post K mg W σ H ι o fun a g H' ι' => PostS K mg W E H' ι' (k a g) := by
  cases o with
  | ok a g => exact fun H2 ι2 y s => PostS.ext y p
  | exc e g => exact fun cls dx H2 ι2 y s z => p cls dx σ H2 ι2 y s (er.ext y) z
  | bad => exact p
end
variable {st : Stmt} {rest : List Stmt} {s1 s2 : S} {t : T}
theorem ss_cons (h1 : SS X W st s1) (h2 : SSs X W rest s2) : SSs X W (st :: rest) (sSeq s1 s2) := (pss_cons h1 h2).mono fun E σ H ⟨ρ, g, ι, er, s, p⟩ => by
  refine ⟨ρ, g, ι, er, s, ?_⟩
  unfold sSeq at p
  cases h : s1 ρ g with
  | next ρ1 g1 => rw [h] at p; exact fun σ' H' ι' x s' er' => ⟨ρ1, g1, ι', er', s', PostS.ext x p⟩
  | ret d g1 => rw [h] at p; exact p
  | brk ρ1 g1 => rw [h] at p; exact p
  | cont ρ1 g1 => rw [h] at p; exact p
  | exc e ρ1 g1 => rw [h] at p; exact p
  | bad => rw [h] at p; exact p
theorem ss_one (h1 : SS X W st s1) : SSs X W [st] s1 := pss_one h1
theorem ss_nil : SSs X W [] sNil := pss_nil.mono fun E σ H ⟨ρ, g, ι, er, s, p⟩ => p.next s er
theorem s_pass : SS X W (.Pass pos) sNil := ps_pass.mono fun E σ H ⟨ρ, g, ι, er, s, p⟩ => p.next s er
theorem s_break : SS X W (.Break pos) sBreak := ps_break.mono fun E σ H ⟨ρ, g, ι, er, s, p⟩ => p σ H ι Ext.refl s er
theorem s_cont : SS X W (.Continue pos) sCont := ps_continue.mono fun E σ H ⟨ρ, g, ι, er, s, p⟩ => p σ H ι Ext.refl s er
theorem s_expr (h : EE X W e m) (hs : swapsWith e none pos.line X.env = pure false := by rfl) : SS X W (.Expr e pos) (sExpr m) := (ps_expr h hs).mono fun E σ H ⟨ρ, g, ι, er, s, p⟩ => by
  exact ⟨ρ, g, ι, er, s, (PostS.onR er p).imp fun d1 g1 H1 ι1 _ x1 s1 p1 v1 r1 => p1.next s1 (er.ext x1)⟩
theorem s_ret (h : EE X W e m) : SS X W (.Return (some e) pos) (sRet m) := (ps_ret h).mono fun E σ H ⟨ρ, g, ι, er, s, p⟩ => by
  exact ⟨ρ, g, ι, er, s, (PostS.onR er p).imp fun d1 g1 H1 ι1 _ x1 s1 p1 v1 r1 => p1 v1 H1 ι1 Ext.refl s1 r1⟩
theorem s_retN : SS X W (.Return none pos) sRetN := ps_retN.mono fun E σ H ⟨ρ, g, ι, er, s, p⟩ => p _ H ι Ext.refl s .non
theorem s_if {a b : List Stmt} (hc : TTt X W c t) (ha : SSs X W a s1) (hb : SSs X W b s2) : SS X W (.If c a b pos) (sIf t s1 s2) := (ps_if hc ha hb).mono fun E σ H ⟨ρ, g, ι, er, s, p⟩ => by
  refine ⟨ρ, g, ι, er, s, (PostS.onR er p).imp fun k g1 H1 ι1 _ x1 s1 p1 => ?_⟩
  cases k with
  | true => exact ⟨ρ, g1, ι1, er.ext x1, s1, p1⟩
  | false => exact ⟨ρ, g1, ι1, er.ext x1, s1, p1⟩
theorem asg_post {K mg} {E : Ends} {tg : Tg} {σ : St} {H : Hp} (h : tS K mg W (sAsg m tg) E σ H) : tE K mg W m σ H fun x H1 => tG K own tg x σ H1 E.nx := by
  obtain ⟨ρ, g, ι, er, s, p⟩ := h
  refine ⟨ρ, g, ι, er, s, (PostS.onR er p).imp fun d1 g1 H1 ι1 _ x1 s1 p1 v1 r1 => ?_⟩
  cases h : tg d1 ρ with
  | none => rw [h] at p1; exact p1.elim
  | some ρ1 => rw [h] at p1; exact ⟨d1, ρ, g1, ι1, ρ1, r1, er.ext x1, s1, h, fun σ' er' _ => p1.next s1 er'⟩
theorem s_asg {g : Tg} {tgt : Expr} (h : EE X W e m) (hg : GG X own tgt g) (hs : swapsWithSole [tgt] e pos.line X.env = pure false := by rfl) (hw : swappedStores [tgt] e X.env = pure none := by rfl)
    (h1 : (assignEach [tgt] X.env).map (·.2) = [assign tgt X.env] := by rfl) : SS X W (.Assign [tgt] e pos) (sAsg m g) := (ps_asg h hg hs hw h1).mono fun E σ H h => asg_post h
theorem s_set (i : Nat) {x : Str} {pos' : Pos} (hN : X.N.Nodup) (h : EE X W e m) (hi : X.N[i]? = some x := by rfl) (hx : Loc X.env.scope x := by first | exact Or.inl rfl | exact Or.inr rfl) (hs : swapsWith e (some (.Name x pos')) pos.line X.env = pure false := by rfl)
    (hf : X.fn x = true ∨ X.env.scope.names.lookup x = some .local := by first | exact .inl rfl | exact .inr rfl | assumption) : SS X W (.Assign [.Name x pos'] e pos) (sAsg m (Py.gName i)) :=
  (ps_set hN hi hx h hs hf).mono fun E σ H h => by
    obtain ⟨ρ, g, ι, er, s, p⟩ := h
    refine ⟨ρ, g, ι, er, s, (PostS.onR er p).imp fun d1 g1 H1 ι1 _ x1 s1 p1 v1 r1 => ?_⟩
    exact p1.next s1 ((er.ext x1).set r1 i)
/-- o[i] = e, o a list -/
def tSetI (K : PySem.W.Frag) : TSet := fun o i v H Q => ∃ x k d g ι r xs j z, SR_ K H ι g ∧ Rep K H ι x o ∧ Rep K H ι k i ∧ Rep K H ι d v ∧ mutOf x g = some (r, xs) ∧ asI k = some z ∧ ix xs.length z = some j ∧
  ∀ H' ι', Ext K H H' ι ι' → SR_ K H' ι' (g.set r (.lst (xs.set j d))) → Q H'
theorem set_i : PSet X (tSetI X.K) := by
  intro pins s σ H o i v ov iv u Q I ro ri rv ⟨x, k, d, g, ι, r, xs, j, z, sr, h1, h2, h3, h4, h5, h6, q⟩
  obtain ⟨e1, hg⟩ := mutOf_inv h4
  subst e1
  cases asI_some h5
  cases h2
  cases h1 with
  | @ref _ a ha =>
    obtain ⟨vs, e2, hr⟩ := sr.lst ha hg
    exact set_list pins s σ H _ _ v ov iv u Q I ro ri rv ⟨a, vs, z, j, rfl, rfl, e2, by rw [← hr.len]; exact h6, q _ ι (Ext.wr e2) (sr.wrL hg ha (Reps.set h3 j hr) e2)⟩
theorem s_setI {o i : Expr} {mo mi : M} {p2 : Pos} (he : EE X W e m) (ho : EE X W o mo) (hi : EE X W i mi)
    (hgs : PG X (.Subscript o i p2) (gSub (tE X.K X.mg W mo) (tE X.K X.mg W mi) (tSetI X.K)))
    (hs : swapsWithSole [.Subscript o i p2] e pos.line X.env = pure false := by rfl) (hw : swappedStores [.Subscript o i p2] e X.env = pure none := by rfl)
    (h1 : (assignEach [.Subscript o i p2] X.env).map (·.2) = [assign (.Subscript o i p2) X.env] := by rfl) : SS X W (.Assign [.Subscript o i p2] e pos) (sSetI mo mi m) :=
  (ps_asg he hgs hs hw h1).mono fun E σ H ⟨ρ, g, ι, er, s, p⟩ => by
    refine ⟨ρ, g, ι, er, s, (PostS.onR er p).imp fun d1 g1 H1 ι1 _ x1 s1 p1 v1 r1 => ?_⟩
    refine ⟨ρ, g1, ι1, er.ext x1, s1, (PostS.onR (er.ext x1) p1).imp fun d2 g2 H2 ι2 _ x2 s2 p2 v2 r2 => ?_⟩
    refine ⟨ρ, g2, ι2, (er.ext x1).ext x2, s2, (PostS.onR ((er.ext x1).ext x2) p2).imp fun d3 g3 H3 ι3 _ x3 s3 p3 v3 r3 => ?_⟩
    cases hm : mutOf d2 g3 with
    | none => rw [hm] at p3; exact p3.elim
    | some q =>
      obtain ⟨r, xs⟩ := q
      cases hk : asI d3 with
      | none => rw [hm, hk] at p3; exact p3.elim
      | some z =>
        rw [hm, hk] at p3
        dsimp only at p3
        cases hj : ix xs.length z with
        | none => rw [hj] at p3; exact p3.elim
        | some j =>
          rw [hj] at p3
          exact ⟨d2, d3, d1, g3, ι3, r, xs, j, z, s3, r2.ext x3, r3, (r1.ext x2).ext x3, hm, hk, hj, fun H' ι' x s' => p3 σ H' ι' x s' ((((er.ext x1).ext x2).ext x3).ext x)⟩
theorem gsub_i {o i : Expr} {mo mi : M} {p2 : Pos} (ho : EE X W o mo) (hi : EE X W i mi)
    (ha : ∀ v, assign (.Subscript o i p2) X.env v = (do
      let ov ← holding [v] (eval o X.env)
      let iv ← holding [v, ov] (eval i X.env)
      standAt p2
      holding [v, ov, iv] (setItem ov iv v)
      release [v, ov, iv] []) := by intro _; rfl) : PG X (.Subscript o i p2) (gSub (tE X.K X.mg W mo) (tE X.K X.mg W mi) (tSetI X.K)) := pg_sub ho hi set_i ha
/-! ### for -/
theorem s_for {w : I} {tgt : Tg} {body : List Stmt} {iter tg : Expr} (hp : PassesOwn (model X.prog X.w) X.A X.env X.xe) (hc : X.calm = true) (hw : II X W tg iter w) (hg : GG X own tg tgt) (hb : SSs X W body s1)
    (hs : ∀ x, foldedSetIterable iter X.env x = pure x := by intro _; rfl) : SS X W (.For tg iter body [] pos) (sFor w tgt s1) := (ps_for hp hc hw hg hb hs).mono fun E σ H ⟨ρ, g, ι, er, s, p⟩ => by
  refine ⟨ρ, g, ι, er, s, (PostS.onR er p).imp fun it g1 H1 ι1 _ x1 s1' p1 J sim => ?_⟩
  refine ⟨fun i m σ H => ∃ ρ g ι, ER X.K H ι ρ σ ∧ SR_ X.K H ι g ∧ Ext X.K H1 H ι1 ι ∧ PostS X.K X.mg W E H ι (forGo it.get tgt s1 m i ρ g), ⟨it.n + 1, ρ, g1, ι1, er.ext x1, s1', Ext.refl, p1⟩, ?_⟩
  rintro i m σ2 H2 ⟨ρ2, g2, ι2, er2, sr2, ex2, p2⟩
  cases m with
  | zero => exact p2.elim
  | succ m =>
    obtain ⟨sim1, sim2⟩ := sim i H2 g2 ι2 ex2 sr2
    unfold forGo at p2
    cases hit : it.get i g2 with
    | none => rw [hit] at p2; exact p2.elim
    | some o =>
      cases o with
      | none => rw [hit] at p2; exact .inl ⟨sim1 hit, p2.next sr2 er2⟩
      | some d =>
        rw [hit] at p2
        obtain ⟨go, yl⟩ := sim2 d hit
        refine .inr ⟨go, fun σ' H' => ∃ ρ g ι, ER X.K H' ι ρ σ' ∧ SR_ X.K H' ι g ∧ Ext X.K H1 H' ι1 ι ∧ PostS X.K X.mg W E H' ι (forGo it.get tgt s1 m (i + 1) ρ g), fun σ' H' h => ⟨m, Nat.lt_succ_self m, h⟩, fun x H' hy => ?_⟩
        obtain ⟨e3, sr3, r3⟩ := yl x H' hy
        dsimp only at p2
        cases ht : tgt d ρ2 with
        | none => rw [ht] at p2; exact p2.elim
        | some ρ3 =>
          rw [ht] at p2
          refine ⟨d, ρ2, g2, ι2, ρ3, r3, er2.ext e3, sr3, ht, fun σ' er' _ => ⟨ρ3, g2, ι2, er', sr3, ?_⟩⟩
          dsimp only at p2
          cases hb : s1 ρ3 g2 with
          | next ρ4 g4 => rw [hb] at p2; exact fun σ4 H4 ι4 x4 s4 er4 => ⟨ρ4, g4, ι4, er4, s4, (ex2.trans e3).trans x4, PostS.ext (e3.trans x4) p2⟩
          | cont ρ4 g4 => rw [hb] at p2; exact fun σ4 H4 ι4 x4 s4 er4 => ⟨ρ4, g4, ι4, er4, s4, (ex2.trans e3).trans x4, PostS.ext (e3.trans x4) p2⟩
          | brk ρ4 g4 => rw [hb] at p2; exact fun σ4 H4 ι4 x4 s4 er4 => p2 σ4 H4 ι4 (e3.trans x4) s4 er4
          | ret d4 g4 => rw [hb] at p2; exact fun v4 H4 ι4 x4 s4 r4 => p2 v4 H4 ι4 (e3.trans x4) s4 r4
          | exc e4 ρ4 g4 => rw [hb] at p2; exact fun c4 d4 σ4 H4 ι4 x4 => p2 c4 d4 σ4 H4 ι4 (e3.trans x4)
          | bad => rw [hb] at p2; exact p2.elim
end
end Py
end

section
set_option Elab.async false
set_option linter.all false
set_option maxRecDepth 100000
set_option autoImplicit false
/-! Soundness of comprehensions, calls of defs, defs. -/
namespace Py
open PySem L2
section
variable {K : PySem.W.Frag} {mg : Str → Option Value} {W : WX} {H H' : Hp} {ι ι' : List Addr}
theorem wipe_len : ∀ (vs : List Nat) (ρ : Env), (Py.wipe ρ vs).length = ρ.length
  | [], _ => rfl
  | v :: vs, ρ => by unfold Py.wipe; rw [List.length_set, wipe_len vs ρ]
theorem wipe_get {i : Nat} {d : D} : ∀ (vs : List Nat) (ρ : Env), (Py.wipe ρ vs)[i]? = some (some d) → ρ[i]? = some (some d) ∧ i ∉ vs
  | [], _, h => ⟨h, by simp⟩
  | v :: vs, ρ, h => by
    unfold Py.wipe at h
    by_cases hi : v = i
    · subst hi
      by_cases hl : v < (Py.wipe ρ vs).length
      · rw [List.getElem?_set_self hl] at h; cases h
      · rw [List.getElem?_eq_none (by simpa using hl)] at h; cases h
    · rw [List.getElem?_set_ne hi] at h
      obtain ⟨h1, h2⟩ := wipe_get vs ρ h
      exact ⟨h1, fun hm => (List.mem_cons.mp hm).elim (fun e => hi e.symm) h2⟩
theorem ER.wipe {ρ : Env} {σ : St} (er : ER K H ι ρ σ) (vs : List Nat) : ER K H ι (Py.wipe ρ vs) (L2.wipe σ vs) := by
  refine ⟨by rw [wipe_len, wipe_length]; exact er.len, fun i d h => ?_⟩
  obtain ⟨h1, h2⟩ := wipe_get vs ρ h
  obtain ⟨v, h3, h4⟩ := er.at_ i d h1
  exact ⟨v, by rw [wipe_out h2]; exact h3, h4⟩
theorem wipe_in {σ : St} {i : Nat} : ∀ {vs : List Nat}, i ∈ vs → i < σ.length → (L2.wipe σ vs)[i]? = some none
  | [], h, _ => by cases h
  | v :: vs, h, hl => by
    unfold L2.wipe
    by_cases e : v = i
    · subst e
      rw [List.getElem?_set_self (by rw [wipe_length]; exact hl)]
    · rw [List.getElem?_set_ne e]
      exact wipe_in ((List.mem_cons.mp h).elim (fun z => absurd z.symm e) id) hl
theorem keep_wipe {σ σ' : St} {vs : List Nat} (k : Keep vs (L2.wipe σ vs) σ') : L2.wipe σ' vs = L2.wipe σ vs := by
  have hl : σ'.length = σ.length := by rw [k.1, wipe_length]
  apply List.ext_getElem?
  intro i
  by_cases hi : i < σ.length
  · by_cases hm : i ∈ vs
    · rw [wipe_in hm (by omega), wipe_in hm hi]
    · rw [wipe_out hm, k.2 i hm]
  · rw [List.getElem?_eq_none (by rw [wipe_length]; omega), List.getElem?_eq_none (by rw [wipe_length]; omega)]
theorem mutOf_at {r : Nat} {g : G} {q : Nat} {xs : List D} (h : mutOf (.ref r) g = some (q, xs)) : g[r]? = some (.lst xs) := (mutOf_ref h).2
/-- a comprehension's reading -/
theorem lc_read {w : I} {t : Tg} {c : T} {m : M} {own : List Nat} {σ : St} {Q : VK} (h : tE K mg W (mLc w t c m own) σ H Q) :
    tLc (tI K mg W w) (tG K own t) (tT K mg W0 c) (tE K mg W0 m) own σ H Q := by
  obtain ⟨ρ, g, ι, er, s, p⟩ := h
  refine ⟨ρ, g, ι, er, s, (Post.bind p).imp fun it g1 H1 ι1 _ x1 s1 p1 J sim D hD => ?_⟩
  have key : ∀ H ι, SR_ K H ι g1 → H D = none → Ext K H1 H ι1 ι → ι.length = g1.length → (ι ++ [D])[g1.length]? = some D := fun H ι _ _ _ hl => by rw [← hl]; simp
  refine ⟨fun i n H => ∃ g ι, SR_ K H ι g ∧ Ext K H1 H ι1 ι ∧ ι[g1.length]? = some D ∧ Post K mg W σ H ι (lcGo it.get t c m (Py.wipe ρ own) g1.length n i g) fun d _ H' ι' => ∀ v, Rep K H' ι' d v → Q v H',
    ⟨it.n + 1, g1 ++ [.lst []], ι1 ++ [D], s1.newL hD .nil, (Ext.new hD).trans Ext.snoc, by rw [← s1.len]; simp, Post.ext ((Ext.new hD).trans Ext.snoc) p1⟩, ?_⟩
  rintro i n H2 ⟨g2, ι2, s2, x2, hr, p2⟩
  cases n with
  | zero => exact p2.elim
  | succ n =>
    obtain ⟨sim1, sim2⟩ := sim i H2 g2 ι2 x2 s2
    unfold lcGo at p2
    cases hit : it.get i g2 with
    | none => rw [hit] at p2; exact p2.elim
    | some o =>
      cases o with
      | none => rw [hit] at p2; exact .inl ⟨sim1 hit, p2.ok s2 _ (.ref hr)⟩
      | some d =>
        rw [hit] at p2
        dsimp only at p2
        obtain ⟨go, yl⟩ := sim2 d hit
        refine .inr ⟨go, fun H => ∃ g ι, SR_ K H ι g ∧ Ext K H1 H ι1 ι ∧ ι[g1.length]? = some D ∧ Post K mg W σ H ι (lcGo it.get t c m (Py.wipe ρ own) g1.length n (i + 1) g) fun d _ H' ι' => ∀ v, Rep K H' ι' d v → Q v H',
          fun H' h => ⟨n, Nat.lt_succ_self n, h⟩, fun x H3 hy => ?_⟩
        obtain ⟨x3, s3, r3⟩ := yl x H3 hy
        cases ht : t d (Py.wipe ρ own) with
        | none => rw [ht] at p2; exact p2.elim
        | some ρ2 =>
          rw [ht] at p2
          dsimp only at p2
          refine ⟨d, Py.wipe ρ own, g2, ι2, ρ2, r3, ((er.wipe own).ext (x1.trans x2)).ext x3, s3, ht, fun σ2 er2 kp => ⟨keep_wipe kp, ρ2, g2, ι2, er2, s3, ?_⟩⟩
          cases hc : c ρ2 g2 with
          | bad => rw [hc] at p2; exact p2.elim
          | exc e g3 => rw [hc] at p2; exact p2.elim
          | ok b g3 =>
            rw [hc] at p2
            cases b with
            | false =>
              intro H4 ι4 x4 s4
              exact ⟨g3, ι4, s4, (x2.trans x3).trans x4, x4.pre _ _ (x3.pre _ _ hr), Post.ext (x3.trans x4) p2⟩
            | true =>
              dsimp only at p2
              intro H4 ι4 x4 s4
              refine ⟨ρ2, g3, ι4, er2.ext x4, s4, ?_⟩
              cases hm : m ρ2 g3 with
              | bad => rw [hm] at p2; exact p2.elim
              | exc e g4 => rw [hm] at p2; exact p2.elim
              | ok y g4 =>
                rw [hm] at p2
                dsimp only at p2
                intro H5 ι5 x5 s5 v5 r5
                cases hq : mutOf (.ref g1.length) g4 with
                | none => rw [hq] at p2; exact p2.elim
                | some q =>
                  obtain ⟨q, xs⟩ := q
                  rw [hq] at p2
                  dsimp only at p2
                  have hr5 := x5.pre _ _ (x4.pre _ _ (x3.pre _ _ hr))
                  have hg := mutOf_at hq
                  obtain ⟨acc, h6, h7⟩ := s5.lst hr5 hg
                  by_cases hl : xs.length < LINE
                  · rw [if_pos hl] at p2
                    refine ⟨acc, h6, by rw [← h7.len, line_eq]; exact hl, _, ι5, s5.wrL hg hr5 (h7.append (.cons r5 .nil)) h6, ?_, hr5, ?_⟩
                    · exact (((x2.trans x3).trans x4).trans x5).trans (Ext.wr h6)
                    · exact Post.ext (((x3.trans x4).trans x5).trans (Ext.wr h6)) p2
                  · rw [if_neg hl] at p2
                    exact p2.elim
end
section
variable {X : Cx} {W : WX} {a b c e : Expr} {es : List Expr} {pos : Pos} {ma mb m : M}
theorem cs_nil : PTs X [] (tT X.K X.mg W Py.tYes) := ⟨fun pins s σ H Q I ⟨ρ, g, ι, er, sr, p⟩ => pts_nil.run pins s σ H Q I (p.ok sr)⟩
theorem cs_one {t : T} (h : TTt X W c t) : PTs X [c] (tT X.K X.mg W t) := pts_one h
theorem e_lc {elt tg iter : Expr} {ifs : List Expr} {scope : Scope} (own : List (Str × Nat)) {w : I} {tgt : Tg} {t : T} (hc : X.calm = true) (hN : X.N.Nodup) (hi : II X W tg iter w) (ok : BlkOk X.N X.env.scope scope own)
    (hg : ∀ (s : Shared) (H : Hp) (C : Addr) (cl : List (Str × Addr)) (fp : List Addr), GG (X.blk s H scope (compEnvC scope cl C X.env) fp) (own.map (·.2)) tg tgt)
    (ht : ∀ (s : Shared) (H : Hp) (C : Addr) (cl : List (Str × Addr)) (fp : List Addr), PTs (X.blk s H scope (compEnvC scope cl C X.env) fp) ifs (tT X.K X.mg W0 t))
    (he : ∀ (s : Shared) (H : Hp) (C : Addr) (cl : List (Str × Addr)) (fp : List Addr), EE (X.blk s H scope (compEnvC scope cl C X.env) fp) W0 elt m) (hs : ∀ x, foldedSetIterable iter X.env x = pure x := by intro _; rfl) :
    EE X W (.ListComp elt [⟨tg, iter, ifs, 0⟩] scope pos) (mLc w tgt t m (own.map (·.2))) := (pe_lc hc hN hi ok hg ht he hs).mono fun σ H Q h => lc_read h
theorem s_setLc (i : Nat) {y : Str} {py spos : Pos} {elt tg iter : Expr} {ifs : List Expr} {scope : Scope} (own : List (Str × Nat)) {w : I} {tgt : Tg} {t : T} (hc : X.calm = true) (hN : X.N.Nodup)
    (hi : II X W tg iter w) (ok : BlkOk X.N X.env.scope scope own)
    (hg : ∀ (s : Shared) (H : Hp) (C : Addr) (cl : List (Str × Addr)) (fp : List Addr), GG (X.blk s H scope (compEnvC scope cl C X.env) fp) (own.map (·.2)) tg tgt)
    (ht : ∀ (s : Shared) (H : Hp) (C : Addr) (cl : List (Str × Addr)) (fp : List Addr), PTs (X.blk s H scope (compEnvC scope cl C X.env) fp) ifs (tT X.K X.mg W0 t))
    (he : ∀ (s : Shared) (H : Hp) (C : Addr) (cl : List (Str × Addr)) (fp : List Addr), EE (X.blk s H scope (compEnvC scope cl C X.env) fp) W0 elt m)
    (hy : X.N[i]? = some y := by rfl) (hyl : X.env.scope.names.lookup y = some .local := by rfl)
    (hsw : swapsWith (.ListComp elt [⟨tg, iter, ifs, 0⟩] scope pos) (some (.Name y py)) spos.line X.env = pure true := by exact sw_true rfl rfl rfl (by decide +kernel)) (hs : ∀ x, foldedSetIterable iter X.env x = pure x := by intro _; rfl) :
    SS X W (.Assign [.Name y py] (.ListComp elt [⟨tg, iter, ifs, 0⟩] scope pos) spos) (sAsg (mLc w tgt t m (own.map (·.2))) (Py.gName i)) := (ps_setLc hc hN hy hyl hsw hi ok hg ht he hs).mono fun E σ H ⟨ρ, g, ι, er, s, p⟩ => by
  refine lc_read ⟨ρ, g, ι, er, s, (PostS.onR er p).imp fun d1 g1 H1 ι1 _ x1 s1 p1 v1 r1 => ?_⟩
  exact p1.next s1 ((er.ext x1).set r1 i)
/-! ### defs -/
/-- what a def promises: f of the data -/
def spF (K : PySem.W.Frag) (mg : Str → Option Value) (n : Nat) (f : F) : Sp := fun vs H Q E => ∃ ds g ι, SR_ K H ι g ∧ Reps K H ι ds vs ∧ ds.length = n ∧ Post K mg (fun c d _ H' => E c d H') [] H ι (f ds g) fun d _ H' ι' => ∀ v, Rep K H' ι' d v → Q v H'
/-- the wish of exceptions -/
abbrev wx (E : XK) : WX := fun c d _ H => E c d H
theorem post_w {K mg} {α : Type} {E : XK} {σ σ' : St} {H : Hp} {ι : List Addr} {r : R α} {k : α → G → Hp → List Addr → Prop} (p : Post K mg (wx E) σ H ι r k) : Post K mg (wx E) σ' H ι r k := by
  cases r <;> exact p
/-- a def that may be called by its name -/
structure Cal (P : Program) (w : World) (K : PySem.W.Frag) (mg : Str → Option Value) (base : Heap) (CX : CXT) (k : Nat) (x : Str) (n : Nat) (f : F) : Prop where
  ex : ∃ (a : Addr) (fd : FuncData) (ps : List Str), FnOk P w K mg base CX k a fd ps (spF K mg n f) ∧ mg x = some (.ref a) ∧ PySem.W.keepIn K (.ref a) = true ∧ Binds K fd ps []
variable {CX : CXT} {k j n : Nat} {x : Str} {p : Pos} {f : F} {E : XK} {as : A}
theorem e_call (cl : Cal X.prog X.w X.K X.mg X.base CX k x n f) (hr : Room j X.A) (hk : k ≤ j) (hx : Passes CX X E) (ha : AA X (wx E) (e :: es) as) (hg : Gl X x := by rfl)
    (hdb : (x == ("__debug__" : Str)) = false := by decide) (he : starEach (e :: es) X.env = (false, eval e X.env) :: starEach es X.env := by rfl) (hpl : (backTo pos (starEach es X.env)).any (·.1) = false := by rfl)
    (hn : ∀ ρ g ds g', as ρ g = .ok ds g' → ds.length = n) : EE X (wx E) (.Call (.Name x p) (e :: es) [] pos) (mCall f as) := by
  obtain ⟨a, fd, ps, F, hm, kp, b⟩ := cl.ex
  refine (pe_call F (hr.mono hk) hg hm kp b .nil hx ha hdb he hpl).mono fun σ H Q ⟨ρ, g, ι, er, s, p⟩ => ?_
  refine ⟨ρ, g, ι, er, s, (Post.bind p).imp fun ds g1 H1 ι1 e1 x1 s1 p1 vs rs => ?_⟩
  show spF X.K X.mg n f (vs ++ []) H1 Q E
  rw [List.append_nil]
  exact ⟨ds, g1, ι1, s1, rs, hn ρ g ds g1 e1, post_w p1⟩
theorem e_call0 (cl : Cal X.prog X.w X.K X.mg X.base CX k x 0 f) (hr : Room j X.A) (hk : k ≤ j) (hx : Passes CX X E) (hg : Gl X x := by rfl)
    (hdb : (x == ("__debug__" : Str)) = false := by decide) : EE X (wx E) (.Call (.Name x p) [] [] pos) (mCall f mNil) := by
  obtain ⟨a, fd, ps, F, hm, kp, b⟩ := cl.ex
  refine (pe_call0 F (hr.mono hk) hg hm kp b .nil hx hdb).mono fun σ H Q ⟨ρ, g, ι, er, s, p⟩ => ?_
  exact ⟨[], g, ι, s, .nil, rfl, post_w p⟩
theorem as_nil {n : Nat} (h : n = 0) : ∀ ρ g ds g', mNil ρ g = .ok ds g' → ds.length = n := fun ρ g ds g' e => by cases e; exact h.symm
theorem as_cons {m : M} {as : A} {n : Nat} (h : ∀ ρ g ds g', as ρ g = .ok ds g' → ds.length = n) : ∀ ρ g ds g', mCons m as ρ g = .ok ds g' → ds.length = n + 1 := fun ρ g ds g' e => by
  unfold mCons at e
  cases h1 : m ρ g with
  | ok d g1 =>
    rw [h1] at e
    simp only [Py.R.bind_ok] at e
    cases h2 : as ρ g1 with
    | ok es g2 =>
      rw [h2] at e
      simp only [Py.R.bind_ok] at e
      cases e
      simp [h ρ g1 es _ h2]
    | exc x g2 => rw [h2] at e; cases e
    | bad => rw [h2] at e; cases e
  | exc x g1 => rw [h1] at e; cases e
  | bad => rw [h1] at e; cases e
/-- the start of a def -/
theorem er_start {K : PySem.W.Frag} {H : Hp} {ι : List Addr} {ds : List D} {vs : List V} (N : List Str) (r : Reps K H ι ds vs) : ER K H ι (ds.map some ++ List.replicate (N.length - ds.length) none) (L2.start N vs) := by
  refine ⟨by unfold L2.start; simp [r.len], fun i d h => ?_⟩
  by_cases hi : i < ds.length
  · rw [List.getElem?_append_left (by simpa using hi), List.getElem?_map, Option.map_eq_some_iff] at h
    obtain ⟨d', h1, h2⟩ := h
    cases h2
    obtain ⟨v, h3, h4⟩ := r.get h1
    exact ⟨v, by unfold L2.start; rw [List.getElem?_append_left (by rw [List.length_map, ← r.len]; exact hi), List.getElem?_map, h3]; rfl, h4⟩
  · rw [List.getElem?_append_right (by simpa using hi)] at h
    have := List.getElem?_eq_some_iff.mp h
    obtain ⟨hl, e⟩ := this
    simp at e
/-- a def's body read from its promise -/
theorem body_read {K : PySem.W.Frag} {mg : Str → Option Value} {n m : Nat} {b : S} {N : List Str} {vs : List V} {H : Hp} {Q : VK} {E : XK} (hm : N.length = m) (h : spF K mg n (fn n m b) vs H Q E) :
    tS K mg (wx E) b { nx := fun _ H' => Q .non H', rt := Q } (L2.start N vs) H := by
  obtain ⟨ds, g, ι, s, r, hl, p⟩ := h
  unfold fn at p
  rw [if_pos hl] at p
  subst hm
  have er := er_start N r
  rw [← hl] at p
  refine ⟨_, g, ι, er, s, ?_⟩
  cases hb : b (ds.map some ++ List.replicate (N.length - ds.length) none) g with
  | next ρ g1 => rw [hb] at p; exact fun σ' H' ι' x s' er' => p H' ι' x s' _ .non
  | ret d g1 => rw [hb] at p; exact fun v H' ι' x s' r' => p H' ι' x s' v r'
  | exc e ρ g1 => rw [hb] at p; exact fun c d σ' H' ι' x s' er' z => p c d H' ι' x s' z
  | brk ρ g1 => rw [hb] at p; exact p.elim
  | cont ρ g1 => rw [hb] at p; exact p.elim
  | bad => rw [hb] at p; exact p.elim
theorem sp_len {K : PySem.W.Frag} {mg : Str → Option Value} {n : Nat} {f : F} {ps : List Str} (h : ps.length = n) : ∀ vs H Q E, spF K mg n f vs H Q E → vs.length = ps.length := fun vs H Q E ⟨ds, g, ι, s, r, hl, p⟩ => by rw [h, ← hl, r.len]
theorem pass_0 {X : Cx} {E : XK} : Passes CX0 X E := fun _ _ _ _ _ _ _ h => h.elim
/-- a def that is never asked -/
theorem cal_bad {P : Program} {w : World} {K : PySem.W.Frag} {mg : Str → Option Value} {base : Heap} {CX : CXT} {k n : Nat} {x : Str} {a : Addr} {fd : FuncData} {ps : List Str} (kp : PySem.W.keepIn K (.ref a) = true) (hm : mg x = some (.ref a)) (b : Binds K fd ps []) (hl : ps.length = n) :
    Cal P w K mg base CX k x n fun _ _ => .bad := ⟨a, fd, ps, ⟨sp_len hl, fun A outer s H args us vs Q E hr he hb hv hs => by
  obtain ⟨ds, g, ι, _, _, _, p⟩ := hs
  exact p.elim⟩, hm, kp, b⟩
end
end Py
end

section
set_option autoImplicit false
set_option linter.all false
/-! Reasoning about the small semantics: weakest preconditions as rewriting. -/
namespace Py
def wp {α : Type} (r : R α) (Q : α → G → Prop) : Prop := match r with | .ok a g => Q a g | _ => False
structure Kt where
  nx : Env → G → Prop
  rt : D → G → Prop
  bk : Env → G → Prop
  ct : Env → G → Prop
def wpS (r : SR) (k : Kt) : Prop := match r with | .next ρ g => k.nx ρ g | .ret d g => k.rt d g | .brk ρ g => k.bk ρ g | .cont ρ g => k.ct ρ g | _ => False
section
variable {α β : Type} {Q : α → G → Prop} {Q' : D → G → Prop} {ρ : Env} {g : G} {k : Kt}
@[simp] theorem wp_ok (a : α) : wp (.ok a g) Q = Q a g := rfl
@[simp] theorem wp_bad : wp (α := α) .bad Q = False := rfl
@[simp] theorem wp_exc (e : Exc) : wp (α := α) (.exc e g) Q = False := rfl
@[simp] theorem wp_bind (r : R β) (f : β → G → R α) : wp (r.bind f) Q = wp r fun a g => wp (f a g) Q := by cases r <;> rfl
theorem wp_imp {r : R α} {P : α → G → Prop} (h : wp r P) (i : ∀ a g, P a g → Q a g) : wp r Q := by cases r <;> first | exact i _ _ h | exact h
theorem wp_and {r : R α} {P : α → G → Prop} (h : wp r P) (h' : wp r Q) : wp r fun a g => P a g ∧ Q a g := by cases r <;> first | exact ⟨h, h'⟩ | exact h
@[simp] theorem wp_ite (c : Prop) [Decidable c] (x y : R α) : wp (if c then x else y) Q = if c then wp x Q else wp y Q := by split <;> rfl
theorem wp_ofP (o : Option α) : wp (ofP o g) Q ↔ ∃ a, o = some a ∧ Q a g := by
  cases o with
  | none => exact ⟨fun h => h.elim, fun ⟨_, h, _⟩ => by cases h⟩
  | some a => exact ⟨fun h => ⟨a, rfl, h⟩, fun ⟨_, h, q⟩ => by cases h; exact q⟩
theorem wp_ofO (o : Option (α × G)) : wp (ofO o) Q ↔ ∃ a g', o = some (a, g') ∧ Q a g' := by
  cases o with
  | none => exact ⟨fun h => h.elim, fun ⟨_, _, h, _⟩ => by cases h⟩
  | some p => exact ⟨fun h => ⟨p.1, p.2, rfl, h⟩, fun ⟨_, _, h, q⟩ => by cases h; exact q⟩
theorem wp_ofO_some {o : Option (α × G)} {a : α} {g' : G} (h : o = some (a, g')) : wp (ofO o) Q = Q a g' := by subst h; rfl
/-! ### expressions -/
def vr (o : Option (Option D)) (g : G) : R D := match o with | some (some d) => .ok d g | _ => .bad
@[simp] theorem vr_some (d : D) : vr (some (some d)) g = .ok d g := rfl
@[simp] theorem x_var (i : Nat) : mVar i ρ g = vr ρ[i]? g := rfl
@[simp] theorem x_C (d : D) : mC d ρ g = .ok d g := rfl
@[simp] theorem x_op (f : N2) (a b : M) : mOp f a b ρ g = (a ρ g).bind fun x g1 => (b ρ g1).bind fun y g2 => ofO (f x y g2) := rfl
@[simp] theorem x_un (f : N1) (a : M) : mUn f a ρ g = (a ρ g).bind fun x g1 => ofO (f x g1) := rfl
@[simp] theorem x_nil : mNil ρ g = .ok [] g := rfl
@[simp] theorem x_cons (a : M) (as : A) : mCons a as ρ g = (a ρ g).bind fun x g1 => (as ρ g1).bind fun xs g2 => .ok (x :: xs) g2 := rfl
@[simp] theorem x_tup (as : A) : mTup as ρ g = (as ρ g).bind fun xs g1 => if xs.length ≤ LINE then .ok (.tup xs) g1 else .bad := rfl
@[simp] theorem x_lst (as : A) : mLst as ρ g = (as ρ g).bind fun xs g1 => if xs.length ≤ LINE then .ok (.ref g1.length) (g1 ++ [.lst xs]) else .bad := rfl
@[simp] theorem x_call (f : F) (as : A) : mCall f as ρ g = (as ρ g).bind fun xs g1 => f xs g1 := rfl
@[simp] theorem x_if (t : T) (a b : M) : mIf t a b ρ g = (t ρ g).bind fun c g1 => if c then a ρ g1 else b ρ g1 := rfl
@[simp] theorem x_and (a b : M) : mAnd a b ρ g = (a ρ g).bind fun x g1 => (ofP (asB x) g1).bind fun c g2 => if c then b ρ g2 else .ok (.bl false) g2 := rfl
@[simp] theorem x_or (a b : M) : mOr a b ρ g = (a ρ g).bind fun x g1 => (ofP (asB x) g1).bind fun c g2 => if c then .ok (.bl true) g2 else b ρ g2 := rfl
@[simp] theorem x_not (a : M) : mNot a ρ g = (a ρ g).bind fun x g1 => (ofP (asB x) g1).bind fun c g2 => .ok (.bl (!c)) g2 := rfl
@[simp] theorem x_chain (f f' : B2) (a b c : M) : mChain f f' a b c ρ g = (a ρ g).bind fun x g1 => (b ρ g1).bind fun y g2 => (ofP (f x y g2) g2).bind fun z g3 =>
  (ofP (asB z) g3).bind fun k g4 => if k then (c ρ g4).bind fun w g5 => ofP (f' y w g5) g5 else .ok (.bl false) g4 := rfl
@[simp] theorem x_tVal (a : M) : tVal a ρ g = (a ρ g).bind fun x g1 => ofP (asB x) g1 := rfl
@[simp] theorem x_tTru (a : M) : tTru a ρ g = (a ρ g).bind fun x g1 => ofP (truth x g1) g1 := rfl
@[simp] theorem x_tAnd (a b : T) : tAnd a b ρ g = (a ρ g).bind fun c g1 => if c then b ρ g1 else .ok false g1 := rfl
@[simp] theorem x_tOr (a b : T) : tOr a b ρ g = (a ρ g).bind fun c g1 => if c then .ok true g1 else b ρ g1 := rfl
@[simp] theorem x_tNot (a : T) : tNot a ρ g = (a ρ g).bind fun c g1 => .ok (!c) g1 := rfl
@[simp] theorem x_tYes : tYes ρ g = .ok true g := rfl
@[simp] theorem x_sl (a : M) (lo hi : Option M) : mSl a lo hi ρ g = (a ρ g).bind fun x g1 => (mIx lo ρ g1).bind fun l g2 => (mIx hi ρ g2).bind fun h g3 => ofO (oSl x l h g3) := rfl
@[simp] theorem x_ixN : mIx none ρ g = .ok none g := rfl
@[simp] theorem x_ixS (m : M) : mIx (some m) ρ g = (m ρ g).bind fun d g1 => (ofP (asI d) g1).bind fun i g2 => .ok (some i) g2 := rfl
@[simp] theorem x_app (o e : M) : mApp o e ρ g = (o ρ g).bind fun x g1 => if (lstOf x g1).isSome then (e ρ g1).bind fun y g2 => ofO (oAppend x y g2) else .bad := rfl
@[simp] theorem x_asB (b : Bool) : asB (.bl b) = some b := rfl
@[simp] theorem x_asI (i : Int) : asI (.int i) = some i := rfl
@[simp] theorem x_any (a : M) : iAny a ρ g = (a ρ g).bind fun x g1 => ofP (iterOf x g1) g1 := rfl
@[simp] theorem x_lc (w : I) (t : Tg) (c : T) (e : M) (own : List Nat) : mLc w t c e own ρ g = (w ρ g).bind fun it g1 => lcGo it.get t c e (wipe ρ own) g1.length (it.n + 1) 0 (g1 ++ [.lst []]) := rfl
@[simp] theorem ofO_p2 (f : B2) (x y : D) : ofO (p2 f x y g) = ofP (f x y g) g := by
  unfold p2
  cases f x y g <;> rfl
@[simp] theorem ofO_p1 (f : B1) (x : D) : ofO (p1 f x g) = ofP (f x g) g := by
  unfold p1
  cases f x g <;> rfl
/-! ### operators on ints, texts -/
@[simp] theorem add_int (i j : Int) : oAdd (.int i) (.int j) g = some (.int (i + j), g) := rfl
@[simp] theorem add_str (s t : List Char) : wp (ofO (oAdd (.str s) (.str t) g)) Q' ↔ s.length + t.length ≤ LINE ∧ Q' (.str (s ++ t)) g := by
  show wp (ofO (if s.length + t.length ≤ LINE then _ else none)) Q' ↔ _
  split
  · rename_i h; exact ⟨fun q => ⟨h, q⟩, fun q => q.2⟩
  · rename_i h; exact ⟨fun q => q.elim, fun q => absurd q.1 h⟩
@[simp] theorem add_tup (s t : List D) : wp (ofO (oAdd (.tup s) (.tup t) g)) Q' ↔ s.length + t.length ≤ LINE ∧ Q' (.tup (s ++ t)) g := by
  show wp (ofO (if s.length + t.length ≤ LINE then _ else none)) Q' ↔ _
  split
  · rename_i h; exact ⟨fun q => ⟨h, q⟩, fun q => q.2⟩
  · rename_i h; exact ⟨fun q => q.elim, fun q => absurd q.1 h⟩
theorem add_lst {a b : Nat} {xs ys : List D} (h1 : g[a]? = some (.lst xs)) (h2 : g[b]? = some (.lst ys)) : wp (ofO (oAdd (.ref a) (.ref b) g)) Q' ↔ xs.length + ys.length ≤ LINE ∧ Q' (.ref g.length) (g ++ [.lst (xs ++ ys)]) := by
  have e1 : mutOf (.ref a) g = some (a, xs) := by unfold mutOf; dsimp only; rw [h1]
  have e2 : mutOf (.ref b) g = some (b, ys) := by unfold mutOf; dsimp only; rw [h2]
  unfold oAdd
  dsimp only
  rw [e1, e2]
  show wp (ofO (if xs.length + ys.length ≤ LINE then _ else none)) Q' ↔ _
  split
  · rename_i h; exact ⟨fun q => ⟨h, q⟩, fun q => q.2⟩
  · rename_i h; exact ⟨fun q => q.elim, fun q => absurd q.1 h⟩
@[simp] theorem sub_int (i j : Int) : oSub (.int i) (.int j) g = some (.int (i - j), g) := rfl
@[simp] theorem mul_int (i j : Int) : wp (ofO (oMul (.int i) (.int j) g)) Q' ↔ mulOk i j = true ∧ Q' (.int (i * j)) g := by
  show wp (ofO (if mulOk i j = true then _ else none)) Q' ↔ _
  split
  · rename_i h; exact ⟨fun q => ⟨h, q⟩, fun q => q.2⟩
  · rename_i h; exact ⟨fun q => q.elim, fun q => absurd q.1 h⟩
@[simp] theorem mul_str (s : List Char) (n : Int) : wp (ofO (oMul (.str s) (.int n) g)) Q' ↔ (2 ≤ n ∧ n ≤ 1000 ∧ s.length ≤ 1000) ∧ Q' (.str (List.replicate n.toNat s).flatten) g := by
  show wp (ofO (if 2 ≤ n ∧ n ≤ 1000 ∧ s.length ≤ 1000 then _ else none)) Q' ↔ _
  split
  · rename_i h; exact ⟨fun q => ⟨h, q⟩, fun q => q.2⟩
  · rename_i h; exact ⟨fun q => q.elim, fun q => absurd q.1 h⟩
@[simp] theorem mul_tup (s : List D) (n : Int) : wp (ofO (oMul (.tup s) (.int n) g)) Q' ↔ (2 ≤ n ∧ n ≤ 1000 ∧ s.length ≤ 1000 ∧ s.length ≠ 0) ∧ Q' (.tup (List.replicate n.toNat s).flatten) g := by
  show wp (ofO (if 2 ≤ n ∧ n ≤ 1000 ∧ s.length ≤ 1000 ∧ s.length ≠ 0 then _ else none)) Q' ↔ _
  split
  · rename_i h; exact ⟨fun q => ⟨h, q⟩, fun q => q.2⟩
  · rename_i h; exact ⟨fun q => q.elim, fun q => absurd q.1 h⟩
@[simp] theorem fdiv_int (i j : Int) : wp (ofO (oFdiv (.int i) (.int j) g)) Q' ↔ (0 < j ∧ j.natAbs.log2 < 9000) ∧ Q' (.int (i / j)) g := by
  show wp (ofO (if 0 < j ∧ j.natAbs.log2 < 9000 then _ else none)) Q' ↔ _
  split
  · rename_i h; exact ⟨fun q => ⟨h, q⟩, fun q => q.2⟩
  · rename_i h; exact ⟨fun q => q.elim, fun q => absurd q.1 h⟩
@[simp] theorem mod_int (i j : Int) : wp (ofO (oMod (.int i) (.int j) g)) Q' ↔ 0 < j ∧ Q' (.int (i % j)) g := by
  show wp (ofO (if 0 < j then _ else none)) Q' ↔ _
  split
  · rename_i h; exact ⟨fun q => ⟨h, q⟩, fun q => q.2⟩
  · rename_i h; exact ⟨fun q => q.elim, fun q => absurd q.1 h⟩
@[simp] theorem pow_int (i j : Int) : wp (ofO (oPow (.int i) (.int j) g)) Q' ↔ powOk i j = true ∧ Q' (.int (i ^ j.toNat)) g := by
  show wp (ofO (if powOk i j = true then _ else none)) Q' ↔ _
  split
  · rename_i h; exact ⟨fun q => ⟨h, q⟩, fun q => q.2⟩
  · rename_i h; exact ⟨fun q => q.elim, fun q => absurd q.1 h⟩
@[simp] theorem neg_int (i : Int) : oNeg (.int i) g = some (.int (-i), g) := rfl
@[simp] theorem eqD_int (i j : Int) : eqD (.int i) (.int j) g = some (i == j) := rfl
@[simp] theorem eqD_str (i j : List Char) : eqD (.str i) (.str j) g = some (i == j) := rfl
@[simp] theorem eqD_bl (i j : Bool) : eqD (.bl i) (.bl j) g = some (i == j) := rfl
@[simp] theorem eq_def (x y : D) : oEq x y g = (eqD x y g).map .bl := rfl
@[simp] theorem ne_def (x y : D) : oNe x y g = (eqD x y g).map fun b => .bl (!b) := rfl
@[simp] theorem in_def (x y : D) : oIn x y g = (inD x y g).map .bl := rfl
@[simp] theorem notIn_def (x y : D) : oNotIn x y g = (inD x y g).map fun b => .bl (!b) := rfl
@[simp] theorem lt_int (i j : Int) : oLt (.int i) (.int j) g = some (.bl (decide (i < j))) := rfl
@[simp] theorem le_int (i j : Int) : oLe (.int i) (.int j) g = some (.bl (decide (i ≤ j))) := rfl
@[simp] theorem gt_int (i j : Int) : oGt (.int i) (.int j) g = some (.bl (decide (j < i))) := rfl
@[simp] theorem ge_int (i j : Int) : oGe (.int i) (.int j) g = some (.bl (decide (j ≤ i))) := rfl
@[simp] theorem in_str (c : Char) (t : List Char) : inD (.str [c]) (.str t) g = some (decide (c ∈ t)) := rfl
theorem inD_ref (x : D) (r : Nat) : inD x (.ref r) g = match lstOf (.ref r) g with
    | some xs => match view g 60 x, viewL (view g 60) xs with
      | some p, some ps => some (ps.any fun q => P.eqv q p)
      | _, _ => none
    | none => none := by
  cases x with
  | str s => rcases s with _ | ⟨c, _ | ⟨d, s⟩⟩ <;> rfl
  | _ => rfl
theorem inD_tup (x : D) (ds : List D) : inD x (.tup ds) g = if flat x && ds.all flat then some (ds.any fun y => eqF y x) else none := by
  cases x with
  | str s => rcases s with _ | ⟨c, _ | ⟨d, s⟩⟩ <;> rfl
  | _ => rfl
@[simp] theorem isN_non : oIsN .non .non g = some (.bl true) := rfl
@[simp] theorem isN_bl (b : Bool) : oIsN (.bl b) .non g = some (.bl false) := rfl
@[simp] theorem isN_int (b : Int) : oIsN (.int b) .non g = some (.bl false) := rfl
@[simp] theorem isN_str (b : List Char) : oIsN (.str b) .non g = some (.bl false) := rfl
@[simp] theorem isN_tup (b : List D) : oIsN (.tup b) .non g = some (.bl false) := rfl
@[simp] theorem isN_ref (b : Nat) : oIsN (.ref b) .non g = some (.bl false) := rfl
@[simp] theorem notN_non : oNotN .non .non g = some (.bl false) := rfl
@[simp] theorem notN_bl (b : Bool) : oNotN (.bl b) .non g = some (.bl true) := rfl
@[simp] theorem notN_int (b : Int) : oNotN (.int b) .non g = some (.bl true) := rfl
@[simp] theorem notN_str (b : List Char) : oNotN (.str b) .non g = some (.bl true) := rfl
@[simp] theorem notN_tup (b : List D) : oNotN (.tup b) .non g = some (.bl true) := rfl
@[simp] theorem notN_ref (b : Nat) : oNotN (.ref b) .non g = some (.bl true) := rfl
/-! ### places -/
@[simp] theorem idx_tup (ds : List D) (i : Int) : oIdx (.tup ds) (.int i) g = atI ds i := rfl
theorem idx_ref {r : Nat} {ds : List D} (i : Int) (h : lstOf (.ref r) g = some ds) : oIdx (.ref r) (.int i) g = atI ds i := by unfold oIdx; dsimp only; rw [h]; rfl
@[simp] theorem idx_str (s : List Char) (i : Int) : oIdx (.str s) (.int i) g = if s.length ≤ LINE then (atI s i).map fun c => .str [c] else none := rfl
theorem atI_nat {γ : Type} (xs : List γ) (n : Nat) : atI xs (n : Int) = xs[n]? := by
  unfold atI ix
  rw [if_pos (Int.natCast_nonneg n)]
  by_cases h : n < xs.length
  · rw [if_pos (by omega)]; rfl
  · rw [if_neg (by omega), List.getElem?_eq_none (by omega)]; rfl
theorem atI_int {γ : Type} (xs : List γ) {i : Int} (h0 : 0 ≤ i) : atI xs i = xs[i.toNat]? := by
  obtain ⟨n, rfl⟩ := Int.eq_ofNat_of_zero_le h0
  rw [atI_nat]; rfl
@[simp] theorem atI_0 {γ : Type} (xs : List γ) : atI xs 0 = xs[0]? := atI_nat xs 0
@[simp] theorem atI_1 {γ : Type} (xs : List γ) : atI xs 1 = xs[1]? := atI_nat xs 1
@[simp] theorem atI_2 {γ : Type} (xs : List γ) : atI xs 2 = xs[2]? := atI_nat xs 2
@[simp] theorem atI_3 {γ : Type} (xs : List γ) : atI xs 3 = xs[3]? := atI_nat xs 3
@[simp] theorem atI_4 {γ : Type} (xs : List γ) : atI xs 4 = xs[4]? := atI_nat xs 4
theorem atI_mem {γ : Type} {xs : List γ} {i : Int} (h0 : 0 ≤ i) (h1 : i < xs.length) : ∃ x, atI xs i = some x ∧ x ∈ xs := by
  rw [atI_int xs h0]
  have : i.toNat < xs.length := by omega
  exact ⟨xs[i.toNat], List.getElem?_eq_getElem this, List.getElem_mem this⟩
@[simp] theorem sl_str (s : List Char) (lo hi : Option Int) : wp (ofO (oSl (.str s) lo hi g)) Q' ↔ s.length ≤ LINE ∧ Q' (.str (cut s lo hi)) g := by
  show wp (ofO (if s.length ≤ LINE then _ else none)) Q' ↔ _
  split
  · rename_i h; exact ⟨fun q => ⟨h, q⟩, fun q => q.2⟩
  · rename_i h; exact ⟨fun q => q.elim, fun q => absurd q.1 h⟩
@[simp] theorem sl_tup (s : List D) (lo hi : Option Int) : oSl (.tup s) lo hi g = some (.tup (cut s lo hi), g) := rfl
theorem sl_ref {r : Nat} {ds : List D} (lo hi : Option Int) (h : lstOf (.ref r) g = some ds) : oSl (.ref r) lo hi g = some (newL (cut ds lo hi) g) := by unfold oSl; dsimp only; rw [h]; rfl
/-! ### built-ins -/
@[simp] theorem int_int (i : Int) : oInt (.int i) g = some (.int i) := rfl
@[simp] theorem int_bl (b : Bool) : oInt (.bl b) g = some (.int (b2i b)) := rfl
@[simp] theorem len_tup (ds : List D) : oLen (.tup ds) g = some (.int ds.length) := rfl
@[simp] theorem len_str (s : List Char) : oLen (.str s) g = if s.length ≤ LINE then some (.int s.length) else none := by
  unfold oLen lenD
  dsimp only
  split <;> rfl
theorem len_ref {r : Nat} {ds : List D} (h : lstOf (.ref r) g = some ds) : oLen (.ref r) g = some (.int ds.length) := by unfold oLen lenD; dsimp only; rw [h]; rfl
@[simp] theorem ord_1 (c : Char) : oOrd (.str [c]) g = some (.int c.toNat) := rfl
@[simp] theorem min_int (i j : Int) : oMin (.int i) (.int j) g = some (.int (if j < i then j else i)) := rfl
@[simp] theorem max_int (i j : Int) : oMax (.int i) (.int j) g = some (.int (if j > i then j else i)) := rfl
@[simp] theorem tuple_tup (ds : List D) : oTuple (.tup ds) g = some (.tup ds, g) := rfl
theorem tuple_ref {r : Nat} {ds : List D} (h : lstOf (.ref r) g = some ds) : oTuple (.ref r) g = some (.tup ds, g) := by unfold oTuple; rw [show seqOf (.ref r) g = some ds from h]; rfl
@[simp] theorem list_tup (ds : List D) : oList (.tup ds) g = some (newL ds g) := rfl
theorem list_ref {r : Nat} {ds : List D} (h : lstOf (.ref r) g = some ds) : oList (.ref r) g = some (newL ds g) := by unfold oList; rw [show seqOf (.ref r) g = some ds from h]; rfl
@[simp] theorem isi_def (t : Ty) (x : D) : oIsi t x g = (tyOf x g).map fun u => .bl (isTy t u) := rfl
@[simp] theorem ty_non : tyOf .non g = some none := rfl
@[simp] theorem ty_bl (b : Bool) : tyOf (.bl b) g = some (some .bool) := rfl
@[simp] theorem ty_int (b : Int) : tyOf (.int b) g = some (some .int) := rfl
@[simp] theorem ty_str (b : List Char) : tyOf (.str b) g = some (some .str) := rfl
@[simp] theorem ty_tup (b : List D) : tyOf (.tup b) g = some (some .tuple) := rfl
theorem ty_ref {r : Nat} {ds : List D} (h : lstOf (.ref r) g = some ds) : tyOf (.ref r) g = some (some .list) := by
  unfold lstOf at h
  unfold tyOf
  dsimp only at h ⊢
  split at h
  · rfl
  · rfl
  · cases h
theorem lstOf_lst {r : Nat} {ds : List D} (h : g[r]? = some (.lst ds)) : lstOf (.ref r) g = some ds := by unfold lstOf; dsimp only; rw [h]
theorem lstOf_frz {r : Nat} {ds : List D} (h : g[r]? = some (.frz ds)) : lstOf (.ref r) g = some ds := by unfold lstOf; dsimp only; rw [h]
theorem mutOf_lst {r : Nat} {ds : List D} (h : g[r]? = some (.lst ds)) : mutOf (.ref r) g = some (r, ds) := by unfold mutOf; dsimp only; rw [h]
theorem append_lst {r : Nat} {xs : List D} {y : D} (h : g[r]? = some (.lst xs)) : wp (ofO (oAppend (.ref r) y g)) Q' ↔ xs.length < LINE ∧ Q' .non (g.set r (.lst (xs ++ [y]))) := by
  unfold oAppend
  rw [mutOf_lst h]
  show wp (ofO (if xs.length < LINE then _ else none)) Q' ↔ _
  split
  · rename_i h; exact ⟨fun q => ⟨h, q⟩, fun q => q.2⟩
  · rename_i h; exact ⟨fun q => q.elim, fun q => absurd q.1 h⟩
/-! ### iterators -/
@[simp] theorem iter_tup (ds : List D) : iterOf (.tup ds) g = some (itL ds) := rfl
@[simp] theorem iter_str (s : List Char) : iterOf (.str s) g = some (itL (s.map fun c => .str [c])) := rfl
theorem iter_ref {r : Nat} {ds : List D} (h : lstOf (.ref r) g = some ds) : iterOf (.ref r) g = some (itR r ds.length) := by unfold iterOf; dsimp only; rw [h]; rfl
@[simp] theorem x_range1 (a : M) : iRange1 a ρ g = (a ρ g).bind fun x g1 => match x with
  | .int j => if -SMALL ≤ j ∧ j < SMALL then .ok (itL (rng 0 j.toNat)) g1 else .bad
  | _ => .bad := rfl
@[simp] theorem x_range2 (a b : M) : iRange2 a b ρ g = (a ρ g).bind fun x g1 => (b ρ g1).bind fun y g2 => match x, y with
  | .int i, .int j => if (-SMALL ≤ i ∧ i < SMALL) ∧ -SMALL ≤ j ∧ j < SMALL then .ok (itL (rng i (j - i).toNat)) g2 else .bad
  | _, _ => .bad := rfl
theorem rng_at {lo : Int} {n i : Nat} {d : D} (h : (rng lo n)[i]? = some d) : i < n ∧ d = .int (lo + i) := by
  unfold rng at h
  rw [List.getElem?_map, Option.map_eq_some_iff] at h
  obtain ⟨k, h1, rfl⟩ := h
  have := List.getElem?_eq_some_iff.mp h1
  obtain ⟨hl, e⟩ := this
  simp at hl e
  subst e
  exact ⟨hl, rfl⟩
@[simp] theorem rng_len (lo : Int) (n : Nat) : (rng lo n).length = n := by simp [rng]
/-! ### statements -/
@[simp] theorem wpS_next : wpS (.next ρ g) k = k.nx ρ g := rfl
@[simp] theorem wpS_ret (d : D) : wpS (.ret d g) k = k.rt d g := rfl
@[simp] theorem wpS_brk : wpS (.brk ρ g) k = k.bk ρ g := rfl
@[simp] theorem wpS_cont : wpS (.cont ρ g) k = k.ct ρ g := rfl
@[simp] theorem wpS_bad : wpS .bad k = False := rfl
@[simp] theorem wpS_exc (e : Exc) : wpS (.exc e ρ g) k = False := rfl
@[simp] theorem wpS_ite (c : Prop) [Decidable c] (x y : SR) : wpS (if c then x else y) k = if c then wpS x k else wpS y k := by split <;> rfl
@[simp] theorem wpS_onR (r : R α) (f : α → G → SR) : wpS (onR r ρ f) k = wp r fun a g => wpS (f a g) k := by cases r <;> rfl
/-- what follows, not looked into by simp -/
def lz (b : S) (ρ : Env) (g : G) (k : Kt) : Prop := wpS (b ρ g) k
@[simp] theorem y_seq (a b : S) : wpS (sSeq a b ρ g) k = wpS (a ρ g) { k with nx := fun ρ g => lz b ρ g k } := by
  unfold sSeq
  cases a ρ g <;> rfl
@[simp] theorem y_nil : sNil ρ g = .next ρ g := rfl
@[simp] theorem y_brk : sBreak ρ g = .brk ρ g := rfl
@[simp] theorem y_cont : sCont ρ g = .cont ρ g := rfl
@[simp] theorem y_expr (e : M) : sExpr e ρ g = onR (e ρ g) ρ fun _ g1 => .next ρ g1 := rfl
@[simp] theorem y_ret (e : M) : sRet e ρ g = onR (e ρ g) ρ fun d g1 => .ret d g1 := rfl
@[simp] theorem y_retN : sRetN ρ g = .ret .non g := rfl
@[simp] theorem y_if (t : T) (a b : S) : sIf t a b ρ g = onR (t ρ g) ρ fun c g1 => if c then a ρ g1 else b ρ g1 := rfl
@[simp] theorem y_asg (e : M) (i : Nat) : sAsg e (gName i) ρ g = onR (e ρ g) ρ fun d g1 => .next (ρ.set i (some d)) g1 := rfl
@[simp] theorem y_asgT (e : M) (t : Tgs) : wpS (sAsg e (gTup t) ρ g) k ↔ wp (e ρ g) fun d g1 => ∃ ρ', gTup t d ρ = some ρ' ∧ k.nx ρ' g1 := by
  unfold sAsg
  cases e ρ g with
  | ok d g1 =>
    show wpS (match gTup t d ρ with | some ρ1 => .next ρ1 g1 | none => .bad) k ↔ ∃ ρ', gTup t d ρ = some ρ' ∧ k.nx ρ' g1
    cases gTup t d ρ with
    | none => exact ⟨fun h => h.elim, fun ⟨_, h, _⟩ => by cases h⟩
    | some a => exact ⟨fun h => ⟨a, rfl, h⟩, fun ⟨_, h, q⟩ => by cases h; exact q⟩
  | exc e g1 => exact Iff.rfl
  | bad => exact Iff.rfl
@[simp] theorem g_tup_tup (t : Tgs) (ds : List D) : gTup t (.tup ds) ρ = t ds ρ := rfl
@[simp] theorem g_cons_cons (t : Tg) (u : Tgs) (d : D) (ds : List D) : gCons t u (d :: ds) ρ = (t d ρ).bind (u ds) := rfl
@[simp] theorem g_nil_nil : gNil [] ρ = some ρ := rfl
@[simp] theorem g_name_d (i : Nat) (d : D) : gName i d ρ = some (ρ.set i (some d)) := rfl
@[simp] theorem y_setI (o i e : M) : sSetI o i e ρ g = onR (e ρ g) ρ fun v g1 => onR (o ρ g1) ρ fun x g2 => onR (i ρ g2) ρ fun k g3 => match mutOf x g3, asI k with
  | some (r, xs), some k => match ix xs.length k with | some j => .next ρ (g3.set r (.lst (xs.set j v))) | none => .bad
  | _, _ => .bad := rfl
@[simp] theorem y_for (w : I) (t : Tg) (b : S) : sFor w t b ρ g = onR (w ρ g) ρ fun it g1 => forGo it.get t b (it.n + 1) 0 ρ g1 := rfl
@[simp] theorem wp_fn {n m : Nat} {b : S} {ds : List D} {Q : D → G → Prop} : wp (fn n m b ds g) Q = (ds.length = n ∧ wpS (b (ds.map some ++ List.replicate (m - n) none) g) ⟨fun _ g => Q .non g, Q, fun _ _ => False, fun _ _ => False⟩) := by
  unfold fn
  by_cases hl : ds.length = n
  · rw [if_pos hl]
    cases b (ds.map some ++ List.replicate (m - n) none) g <;> simp [hl]
  · rw [if_neg hl]
    simp [hl]
theorem wpS_imp {r : SR} {k' : Kt} (h : wpS r k') (h1 : ∀ ρ g, k'.nx ρ g → k.nx ρ g) (h2 : ∀ d g, k'.rt d g → k.rt d g) (h3 : ∀ ρ g, k'.bk ρ g → k.bk ρ g) (h4 : ∀ ρ g, k'.ct ρ g → k.ct ρ g) : wpS r k := by
  cases r with
  | next ρ g => exact h1 _ _ h
  | ret d g => exact h2 _ _ h
  | brk ρ g => exact h3 _ _ h
  | cont ρ g => exact h4 _ _ h
  | exc e ρ g => exact h
  | bad => exact h
/-! ### loops -/
/-- a loop by an invariant over the items taken; W: what is walked stands -/
theorem for_by {it : Nat → G → Option (Option D)} {ds : List D} {t : Tg} {b : S} (Inv : Nat → Env → G → Prop) (look : ∀ i ρ g, Inv i ρ g → it i g = some ds[i]?)
    (step : ∀ i d ρ g, ds[i]? = some d → Inv i ρ g → ∃ ρ1, t d ρ = some ρ1 ∧ wpS (b ρ1 g) ⟨Inv (i + 1), k.rt, k.nx, Inv (i + 1)⟩)
    (done : ∀ ρ g, Inv ds.length ρ g → k.nx ρ g) : ∀ n i ρ g, n + i = ds.length + 1 → i ≤ ds.length → Inv i ρ g → wpS (forGo it t b n i ρ g) k := by
  intro n
  induction n with
  | zero => intro i ρ g h hi inv; omega
  | succ n ih =>
    intro i ρ g h hi inv
    unfold forGo
    rw [look i ρ g inv]
    cases hd : ds[i]? with
    | none =>
      have : i = ds.length := by have := List.getElem?_eq_none_iff.mp hd; omega
      subst this
      exact done ρ g inv
    | some d =>
      obtain ⟨ρ1, e, q⟩ := step i d ρ g hd inv
      have hl := (List.getElem?_eq_some_iff.mp hd).1
      dsimp only
      rw [e]
      dsimp only
      cases hb : b ρ1 g with
      | next ρ2 g2 => rw [hb] at q; exact ih (i + 1) ρ2 g2 (by omega) (by omega) q
      | cont ρ2 g2 => rw [hb] at q; exact ih (i + 1) ρ2 g2 (by omega) (by omega) q
      | brk ρ2 g2 => rw [hb] at q; exact q
      | ret d2 g2 => rw [hb] at q; exact q
      | exc e ρ2 g2 => rw [hb] at q; exact q
      | bad => rw [hb] at q; exact q
theorem for_itL {ds : List D} {t : Tg} {b : S} (Inv : Nat → Env → G → Prop) (start : Inv 0 ρ g)
    (step : ∀ i d ρ g, ds[i]? = some d → Inv i ρ g → ∃ ρ1, t d ρ = some ρ1 ∧ wpS (b ρ1 g) ⟨Inv (i + 1), k.rt, k.nx, Inv (i + 1)⟩)
    (done : ∀ ρ g, Inv ds.length ρ g → k.nx ρ g) : wpS (forGo (itL ds).get t b ((itL ds).n + 1) 0 ρ g) k :=
  for_by Inv (fun _ _ _ _ => rfl) step done _ 0 ρ g rfl (Nat.zero_le _) start
theorem for_itR {r : Nat} {ds : List D} {t : Tg} {b : S} (Inv : Nat → Env → G → Prop) (start : Inv 0 ρ g) (look : ∀ i ρ g, Inv i ρ g → lstOf (.ref r) g = some ds)
    (step : ∀ i d ρ g, ds[i]? = some d → Inv i ρ g → ∃ ρ1, t d ρ = some ρ1 ∧ wpS (b ρ1 g) ⟨Inv (i + 1), k.rt, k.nx, Inv (i + 1)⟩)
    (done : ∀ ρ g, Inv ds.length ρ g → k.nx ρ g) : wpS (forGo (itR r ds.length).get t b ((itR r ds.length).n + 1) 0 ρ g) k :=
  for_by Inv (fun i ρ g inv => by show (lstOf (.ref r) g).map (fun xs => xs[i]?) = _; rw [look i ρ g inv]; rfl) step done _ 0 ρ g rfl (Nat.zero_le _) start
/-- a comprehension by an invariant over the items taken and the list so far (it stands at r) -/
theorem lc_by {it : Nat → G → Option (Option D)} {ds : List D} {t : Tg} {c : T} {e : M} {r : Nat} {Q : D → G → Prop} (Inv : Nat → List D → G → Prop) (look : ∀ i acc g, Inv i acc g → it i g = some ds[i]?) (at_ : ∀ i acc g, Inv i acc g → g[r]? = some (.lst acc))
    (step : ∀ i d acc g, ds[i]? = some d → Inv i acc g → ∃ ρ1, t d ρ = some ρ1 ∧ wp (c ρ1 g) fun b g1 => if b then wp (e ρ1 g1) fun y g2 => ∃ xs, g2[r]? = some (.lst xs) ∧ xs.length < LINE ∧ Inv (i + 1) (xs ++ [y]) (g2.set r (.lst (xs ++ [y]))) else Inv (i + 1) acc g1)
    (done : ∀ acc g, Inv ds.length acc g → Q (.ref r) g) : ∀ n i acc g, n + i = ds.length + 1 → i ≤ ds.length → Inv i acc g → wp (lcGo it t c e ρ r n i g) Q := by
  intro n
  induction n with
  | zero => intro i acc g h hi inv; omega
  | succ n ih =>
    intro i acc g h hi inv
    unfold lcGo
    rw [look i acc g inv]
    cases hd : ds[i]? with
    | none =>
      have : i = ds.length := by have := List.getElem?_eq_none_iff.mp hd; omega
      subst this
      exact done acc g inv
    | some d =>
      obtain ⟨ρ1, e1, q⟩ := step i d acc g hd inv
      have hl := (List.getElem?_eq_some_iff.mp hd).1
      dsimp only
      rw [e1]
      dsimp only
      cases hc : c ρ1 g with
      | exc e g2 => rw [hc] at q; exact q
      | bad => rw [hc] at q; exact q
      | ok b g1 =>
        rw [hc, wp_ok] at q
        cases b with
        | false => exact ih (i + 1) acc g1 (by omega) (by omega) q
        | true =>
          rw [if_pos rfl] at q
          dsimp only
          cases he : e ρ1 g1 with
          | exc e g2 => rw [he] at q; exact q
          | bad => rw [he] at q; exact q
          | ok y g2 =>
            rw [he, wp_ok] at q
            obtain ⟨xs, h1, h2, h3⟩ := q
            dsimp only
            rw [mutOf_lst h1]
            dsimp only
            rw [if_pos h2]
            exact ih (i + 1) _ _ (by omega) (by omega) h3
end
end Py
end

section
set_option autoImplicit false
set_option linter.all false
/-! Views, stores that grow. -/
namespace Py
theorem view_inv {g : G} {n : Nat} {v : D} {p : P} (h : view g n v = some p) : (v = .non ∧ p = .non) ∨ (∃ b, v = .bl b ∧ p = .bl b) ∨ (∃ i, v = .int i ∧ p = .int i) ∨ (∃ s, v = .str s ∧ p = .str s) ∨
    (∃ m ds ps, n = m + 1 ∧ v = .tup ds ∧ p = .tup ps ∧ viewL (view g m) ds = some ps) ∨ (∃ m r xs ps, n = m + 1 ∧ v = .ref r ∧ lstOf (.ref r) g = some xs ∧ p = .lst ps ∧ viewL (view g m) xs = some ps) := by
  cases v with
  | non => simp [view] at h; simp [h]
  | bl b => simp [view] at h; simp [h]
  | int i => simp [view] at h; simp [h]
  | str s => simp [view] at h; simp [h]
  | tup ds =>
    cases n with
    | zero => simp [view] at h
    | succ n =>
      simp only [view, Option.map_eq_some_iff] at h
      obtain ⟨ps, h1, rfl⟩ := h
      exact .inr (.inr (.inr (.inr (.inl ⟨n, ds, ps, rfl, rfl, rfl, h1⟩))))
  | ref r =>
    cases n with
    | zero => simp [view] at h
    | succ n =>
      simp only [view] at h
      split at h
      · rename_i xs hx
        simp only [Option.map_eq_some_iff] at h
        obtain ⟨ps, h1, rfl⟩ := h
        exact .inr (.inr (.inr (.inr (.inr ⟨n, r, xs, ps, rfl, rfl, hx, rfl, h1⟩))))
      · cases h
theorem small_int {i : Int} (h0 : -1000000000000 ≤ i) (h : i ≤ 1000000000000) : -SMALL ≤ i ∧ i < SMALL := by rw [SMALL_is]; omega
theorem viewL_cons {f : D → Option P} {d : D} {ds : List D} {ps : List P} : viewL f (d :: ds) = some ps ↔ ∃ p qs, ps = p :: qs ∧ f d = some p ∧ viewL f ds = some qs := by
  constructor
  · intro h
    unfold viewL at h
    split at h
    · rename_i p qs h1 h2; cases h; exact ⟨p, qs, rfl, h1, h2⟩
    · cases h
  · rintro ⟨p, qs, rfl, h1, h2⟩
    unfold viewL
    rw [h1, h2]
theorem viewL_nil {f : D → Option P} {ps : List P} : viewL f [] = some ps ↔ ps = [] := by
  unfold viewL
  exact ⟨fun h => by cases h; rfl, fun h => by rw [h]⟩
theorem viewL_len {f : D → Option P} : ∀ {ds : List D} {ps : List P}, viewL f ds = some ps → ps.length = ds.length
  | [], ps, h => by rw [viewL_nil.mp h]; rfl
  | d :: ds, ps, h => by
    obtain ⟨p, qs, rfl, _, h2⟩ := viewL_cons.mp h
    simp [viewL_len h2]
theorem viewL_get {f : D → Option P} : ∀ {ds : List D} {ps : List P} {i : Nat} {d : D}, viewL f ds = some ps → ds[i]? = some d → ∃ p, ps[i]? = some p ∧ f d = some p
  | [], ps, i, d, h, e => by simp at e
  | x :: ds, ps, 0, d, h, e => by
    obtain ⟨p, qs, rfl, h1, h2⟩ := viewL_cons.mp h
    simp at e; subst e
    exact ⟨p, rfl, h1⟩
  | x :: ds, ps, i + 1, d, h, e => by
    obtain ⟨p, qs, rfl, h1, h2⟩ := viewL_cons.mp h
    obtain ⟨q, a, b⟩ := viewL_get (i := i) h2 (by simpa using e)
    exact ⟨q, by simpa using a, b⟩
theorem viewL_mono {f f' : D → Option P} (hf : ∀ d p, f d = some p → f' d = some p) : ∀ {ds : List D} {ps : List P}, viewL f ds = some ps → viewL f' ds = some ps
  | [], ps, h => h
  | d :: ds, ps, h => by
    obtain ⟨p, qs, rfl, h1, h2⟩ := viewL_cons.mp h
    exact viewL_cons.mpr ⟨p, qs, rfl, hf d p h1, viewL_mono hf h2⟩
theorem viewL_append {f : D → Option P} : ∀ {ds es : List D} {ps qs : List P}, viewL f ds = some ps → viewL f es = some qs → viewL f (ds ++ es) = some (ps ++ qs)
  | [], es, ps, qs, h, h' => by rw [viewL_nil.mp h]; exact h'
  | d :: ds, es, ps, qs, h, h' => by
    obtain ⟨p, qs', rfl, h1, h2⟩ := viewL_cons.mp h
    exact viewL_cons.mpr ⟨p, qs' ++ qs, rfl, h1, viewL_append h2 h'⟩
/-- what stood still stands -/
def Stay (g g' : G) : Prop := ∀ (i : Nat) (o : O), g[i]? = some o → g'[i]? = some o
theorem Stay.refl (g : G) : Stay g g := fun _ _ h => h
theorem Stay.trans {a b c : G} (x : Stay a b) (y : Stay b c) : Stay a c := fun i o h => y i o (x i o h)
theorem Stay.snoc (g : G) (o : O) : Stay g (g ++ [o]) := fun i x h => by rw [List.getElem?_append_left (List.getElem?_eq_some_iff.mp h).1]; exact h
theorem Stay.lst {g g' : G} (x : Stay g g') {d : D} {xs : List D} (h : lstOf d g = some xs) : lstOf d g' = some xs := by
  cases d with
  | ref r =>
    unfold lstOf at h ⊢
    dsimp only at h ⊢
    split at h
    · rename_i e; rw [x r _ e]; exact h
    · rename_i e; rw [x r _ e]; exact h
    · cases h
  | _ => cases h
theorem Stay.view {g g' : G} (x : Stay g g') : ∀ {n : Nat} {v : D} {p : P}, view g n v = some p → view g' n v = some p := by
  intro n
  induction n with
  | zero => intro v p h; cases v <;> simp [Py.view] at h ⊢ <;> exact h
  | succ n ih =>
    intro v p h
    rcases view_inv h with ⟨rfl, rfl⟩ | ⟨b, rfl, rfl⟩ | ⟨b, rfl, rfl⟩ | ⟨b, rfl, rfl⟩ | ⟨m, ds, ps, e, rfl, rfl, h1⟩ | ⟨m, r, xs, ps, e, rfl, hx, rfl, h1⟩
    · simp [Py.view]
    · simp [Py.view]
    · simp [Py.view]
    · simp [Py.view]
    · cases e; simp only [Py.view]; rw [viewL_mono (fun d p => ih) h1]; rfl
    · cases e; simp only [Py.view]; rw [x.lst hx]; dsimp only; rw [viewL_mono (fun d p => ih) h1]; rfl
theorem view_up {g : G} : ∀ {n m : Nat} {v : D} {p : P}, n ≤ m → view g n v = some p → view g m v = some p := by
  intro n
  induction n with
  | zero => intro m v p hm h; cases v <;> simp [Py.view] at h ⊢ <;> exact h
  | succ n ih =>
    intro m v p hm h
    obtain ⟨m, rfl⟩ : ∃ k, m = k + 1 := ⟨m - 1, by omega⟩
    rcases view_inv h with ⟨rfl, rfl⟩ | ⟨b, rfl, rfl⟩ | ⟨b, rfl, rfl⟩ | ⟨b, rfl, rfl⟩ | ⟨k, ds, ps, e, rfl, rfl, h1⟩ | ⟨k, r, xs, ps, e, rfl, hx, rfl, h1⟩
    · simp [Py.view]
    · simp [Py.view]
    · simp [Py.view]
    · simp [Py.view]
    · cases e; simp only [Py.view]; rw [viewL_mono (fun d p => ih (by omega)) h1]; rfl
    · cases e; simp only [Py.view]; rw [hx]; dsimp only; rw [viewL_mono (fun d p => ih (by omega)) h1]; rfl
/-- of what stood only ws may be written -/
structure Only (ws : List Nat) (g g' : G) : Prop where
  len : g.length ≤ g'.length
  keep : ∀ i : Nat, i < g.length → i ∉ ws → g'[i]? = g[i]?
section
variable {ws : List Nat} {a b c g g' : G}
theorem Only.refl (ws : List Nat) (g : G) : Only ws g g := ⟨Nat.le_refl _, fun _ _ _ => rfl⟩
theorem Only.trans (x : Only ws a b) (y : Only ws b c) : Only ws a c := ⟨Nat.le_trans x.len y.len, fun i h hw => (y.keep i (Nat.lt_of_lt_of_le h x.len) hw).trans (x.keep i h hw)⟩
theorem Only.mono {us : List Nat} (x : Only ws a b) (h : ∀ i ∈ ws, i ∈ us ∨ a.length ≤ i) : Only us a b := ⟨x.len, fun i hi hu => x.keep i hi fun hw => by
  rcases h i hw with z | z
  · exact hu z
  · omega⟩
/-- behind a step that may write us, the new ones too -/
theorem Only.then {us : List Nat} (x : Only ws a b) (y : Only us b c) (h : ∀ i ∈ us, i ∈ ws ∨ a.length ≤ i) : Only ws a c := ⟨Nat.le_trans x.len y.len, fun i hi hw => (y.keep i (Nat.lt_of_lt_of_le hi x.len) fun hu => by
  rcases h i hu with z | z
  · exact hw z
  · omega).trans (x.keep i hi hw)⟩
theorem Only.snoc (ws : List Nat) (g : G) (o : O) : Only ws g (g ++ [o]) := ⟨by simp, fun i h _ => List.getElem?_append_left h⟩
theorem Only.set {r : Nat} (h : r ∈ ws ∨ g.length ≤ r) (o : O) : Only ws g (g.set r o) := ⟨by simp, fun i hi hw => by
  by_cases e : r = i
  · subst e; rcases h with z | z
    · exact absurd z hw
    · omega
  · exact List.getElem?_set_ne e⟩
theorem Only.ext (x : Only [] g g') : Stay g g' := fun i o h => by rw [x.keep i (List.getElem?_eq_some_iff.mp h).1 (by simp)]; exact h
theorem Only.get {i : Nat} {o : O} (x : Only ws g g') (h : g[i]? = some o) (hw : i ∉ ws) : g'[i]? = some o := by rw [x.keep i (List.getElem?_eq_some_iff.mp h).1 hw]; exact h
theorem Only.lst {r : Nat} {xs : List D} (x : Only ws g g') (h : lstOf (.ref r) g = some xs) (hw : r ∉ ws) : lstOf (.ref r) g' = some xs := by
  unfold lstOf at h ⊢
  dsimp only at h ⊢
  split at h
  · rename_i e; rw [x.get e hw]; exact h
  · rename_i e; rw [x.get e hw]; exact h
  · cases h
theorem get_snoc (g : G) (o : O) : (g ++ [o])[g.length]? = some o := by simp
end
/-- a value's references all lie elsewhere than at ws -/
theorem eq_ok {α : Type} {r : R α} {a : α} {g : G} (h : wp r fun x g' => x = a ∧ g' = g) : r = .ok a g := by
  cases r with
  | ok x g' => obtain ⟨rfl, rfl⟩ := h; rfl
  | exc e g => exact h.elim
  | bad => exact h.elim
theorem wp_of {α : Type} {r : R α} {a : α} {g : G} {Q : α → G → Prop} (h : r = .ok a g) (q : Q a g) : wp r Q := by rw [h]; exact q
/-- a loop that looks at each item and leaves with False at the first bad one; the store stays -/
theorem look_all {ds : List D} {good : D → Bool} {i : Nat} {b : S} {ρ : Env} {g : G} {k : Kt}
    (turn : ∀ d, d ∈ ds → wpS (b (ρ.set i (some d)) g) ⟨fun ρ' g' => good d = true ∧ g' = g ∧ ρ' = ρ.set i (some d), fun x g' => good d = false ∧ x = .bl false ∧ g' = g, fun _ _ => False, fun ρ' g' => good d = true ∧ g' = g ∧ ρ' = ρ.set i (some d)⟩)
    (all : ds.all good = true → ∀ ρ', (ρ' = ρ ∨ ∃ d, ρ' = ρ.set i (some d)) → k.nx ρ' g) (bad : ds.all good = false → k.rt (.bl false) g) : wpS (forGo (itL ds).get (gName i) b ((itL ds).n + 1) 0 ρ g) k := by
  refine for_itL (fun j ρ' g' => g' = g ∧ (ρ' = ρ ∨ ∃ d, ρ' = ρ.set i (some d)) ∧ (ds.take j).all good = true) ⟨rfl, .inl rfl, by simp⟩ ?_ ?_
  · rintro j d ρ1 _ hd ⟨rfl, hρ, hg⟩
    have e : ρ1.set i (some d) = ρ.set i (some d) := by
      rcases hρ with rfl | ⟨d', rfl⟩
      · rfl
      · rw [List.set_set]
    refine ⟨ρ.set i (some d), by rw [← e]; rfl, wpS_imp (turn d (List.mem_of_getElem? hd)) ?_ ?_ (fun _ _ h => h.elim) ?_⟩
    · rintro ρ' g' ⟨h1, rfl, rfl⟩
      refine ⟨rfl, .inr ⟨d, rfl⟩, ?_⟩
      rw [List.take_add_one, hd]
      simp only [Option.toList_some, List.all_append, hg, List.all_cons, h1, List.all_nil, Bool.and_self]
    · rintro x g' ⟨h1, rfl, rfl⟩
      refine bad ?_
      rw [List.all_eq_false]
      exact ⟨d, List.mem_of_getElem? hd, by simp [h1]⟩
    · rintro ρ' g' ⟨h1, rfl, rfl⟩
      refine ⟨rfl, .inr ⟨d, rfl⟩, ?_⟩
      rw [List.take_add_one, hd]
      simp only [Option.toList_some, List.all_append, hg, List.all_cons, h1, List.all_nil, Bool.and_self]
  · rintro ρ' _ ⟨rfl, hρ, hg⟩
    rw [List.take_length] at hg
    exact all hg ρ' hρ
end Py
end

section
set_option autoImplicit false
set_option linter.all false
/-! Views that keep away from some places. -/
namespace Py
/-- as view; the places ws are not looked at -/
def vx (ws : List Nat) (g : G) : Nat → D → Option P
  | _, .non => some .non
  | _, .bl b => some (.bl b)
  | _, .int i => some (.int i)
  | _, .str s => some (.str s)
  | 0, .tup _ => none
  | 0, .ref _ => none
  | n + 1, .tup ds => (viewL (vx ws g n) ds).map .tup
  | n + 1, .ref r => if r ∈ ws then none else match lstOf (.ref r) g with | some xs => (viewL (vx ws g n) xs).map .lst | none => none
theorem vx_inv {ws : List Nat} {g : G} {n : Nat} {v : D} {p : P} (h : vx ws g n v = some p) : (v = .non ∧ p = .non) ∨ (∃ b, v = .bl b ∧ p = .bl b) ∨ (∃ i, v = .int i ∧ p = .int i) ∨ (∃ s, v = .str s ∧ p = .str s) ∨
    (∃ m ds ps, n = m + 1 ∧ v = .tup ds ∧ p = .tup ps ∧ viewL (vx ws g m) ds = some ps) ∨ (∃ m r xs ps, n = m + 1 ∧ v = .ref r ∧ r ∉ ws ∧ lstOf (.ref r) g = some xs ∧ p = .lst ps ∧ viewL (vx ws g m) xs = some ps) := by
  cases v with
  | non => simp [vx] at h; simp [h]
  | bl b => simp [vx] at h; simp [h]
  | int i => simp [vx] at h; simp [h]
  | str s => simp [vx] at h; simp [h]
  | tup ds =>
    cases n with
    | zero => simp [vx] at h
    | succ n =>
      simp only [vx, Option.map_eq_some_iff] at h
      obtain ⟨ps, h1, rfl⟩ := h
      exact .inr (.inr (.inr (.inr (.inl ⟨n, ds, ps, rfl, rfl, rfl, h1⟩))))
  | ref r =>
    cases n with
    | zero => simp [vx] at h
    | succ n =>
      simp only [vx] at h
      split at h
      · cases h
      rename_i hr
      split at h
      · rename_i xs hx
        simp only [Option.map_eq_some_iff] at h
        obtain ⟨ps, h1, rfl⟩ := h
        exact .inr (.inr (.inr (.inr (.inr ⟨n, r, xs, ps, rfl, rfl, hr, hx, rfl, h1⟩))))
      · cases h
theorem lstOf_len {g : G} {r : Nat} {xs : List D} (h : lstOf (.ref r) g = some xs) : r < g.length := by
  by_cases hr : r < g.length
  · exact hr
  · unfold lstOf at h
    dsimp only at h
    rw [List.getElem?_eq_none (by omega)] at h
    cases h
section
variable {ws us : List Nat} {g g' : G}
theorem vx_tup {n : Nat} {ds : List D} {ps : List P} (h : viewL (vx ws g n) ds = some ps) : vx ws g (n + 1) (.tup ds) = some (.tup ps) := by simp only [vx]; rw [h]; rfl
theorem vx_lst {n r : Nat} {ds : List D} {ps : List P} (hr : r ∉ ws) (h' : lstOf (.ref r) g = some ds) (h : viewL (vx ws g n) ds = some ps) : vx ws g (n + 1) (.ref r) = some (.lst ps) := by simp only [vx]; rw [if_neg hr, h']; dsimp only; rw [h]; rfl
/-- what was not looked at may be written; fresh places are never looked at -/
theorem vx_go (o : Only us g g') (hu : ∀ i ∈ us, i ∈ ws ∨ g.length ≤ i) {vs : List Nat} (hv : ∀ i ∈ vs, i ∈ ws ∨ g.length ≤ i) : ∀ {n : Nat} {v : D} {p : P}, vx ws g n v = some p → vx vs g' n v = some p := by
  intro n
  induction n with
  | zero => intro v p h; cases v <;> simp [vx] at h ⊢ <;> exact h
  | succ n ih =>
    intro v p h
    rcases vx_inv h with ⟨rfl, rfl⟩ | ⟨b, rfl, rfl⟩ | ⟨b, rfl, rfl⟩ | ⟨b, rfl, rfl⟩ | ⟨m, ds, ps, e, rfl, rfl, h1⟩ | ⟨m, r, xs, ps, e, rfl, hr, hx, rfl, h1⟩
    · simp [vx]
    · simp [vx]
    · simp [vx]
    · simp [vx]
    · cases e; exact vx_tup (viewL_mono (fun d p => ih) h1)
    · cases e
      have hl := lstOf_len hx
      refine vx_lst (fun hm => ?_) (o.lst hx fun hm => ?_) (viewL_mono (fun d p => ih) h1)
      · rcases hv _ hm with z | z
        · exact hr z
        · omega
      · rcases hu _ hm with z | z
        · exact hr z
        · omega
theorem vx_view : ∀ {n : Nat} {v : D} {p : P}, vx ws g n v = some p → view g n v = some p := by
  intro n
  induction n with
  | zero => intro v p h; cases v <;> simp [vx, view] at h ⊢ <;> exact h
  | succ n ih =>
    intro v p h
    rcases vx_inv h with ⟨rfl, rfl⟩ | ⟨b, rfl, rfl⟩ | ⟨b, rfl, rfl⟩ | ⟨b, rfl, rfl⟩ | ⟨m, ds, ps, e, rfl, rfl, h1⟩ | ⟨m, r, xs, ps, e, rfl, hr, hx, rfl, h1⟩
    · simp [view]
    · simp [view]
    · simp [view]
    · simp [view]
    · cases e; simp only [view]; rw [viewL_mono (fun d p => ih) h1]; rfl
    · cases e; simp only [view]; rw [hx]; dsimp only; rw [viewL_mono (fun d p => ih) h1]; rfl
theorem view_vx : ∀ {n : Nat} {v : D} {p : P}, view g n v = some p → vx [] g n v = some p := by
  intro n
  induction n with
  | zero => intro v p h; cases v <;> simp [vx, view] at h ⊢ <;> exact h
  | succ n ih =>
    intro v p h
    rcases view_inv h with ⟨rfl, rfl⟩ | ⟨b, rfl, rfl⟩ | ⟨b, rfl, rfl⟩ | ⟨b, rfl, rfl⟩ | ⟨m, ds, ps, e, rfl, rfl, h1⟩ | ⟨m, r, xs, ps, e, rfl, hx, rfl, h1⟩
    · simp [vx]
    · simp [vx]
    · simp [vx]
    · simp [vx]
    · cases e; exact vx_tup (viewL_mono (fun d p => ih) h1)
    · cases e; exact vx_lst (by simp) hx (viewL_mono (fun d p => ih) h1)
/-- a value without objects -/
theorem vx_free {n : Nat} {v : D} {p : P} (h : view [] n v = some p) : vx ws g n v = some p :=
  vx_go (us := []) ⟨Nat.zero_le _, fun i hi => by simp at hi⟩ (by simp) (by simp) (view_vx h)
theorem vx_up : ∀ {n m : Nat} {v : D} {p : P}, n ≤ m → vx ws g n v = some p → vx ws g m v = some p := by
  intro n
  induction n with
  | zero => intro m v p hm h; cases v <;> simp [vx] at h ⊢ <;> exact h
  | succ n ih =>
    intro m v p hm h
    obtain ⟨m, rfl⟩ : ∃ k, m = k + 1 := ⟨m - 1, by omega⟩
    rcases vx_inv h with ⟨rfl, rfl⟩ | ⟨b, rfl, rfl⟩ | ⟨b, rfl, rfl⟩ | ⟨b, rfl, rfl⟩ | ⟨k, ds, ps, e, rfl, rfl, h1⟩ | ⟨k, r, xs, ps, e, rfl, hr, hx, rfl, h1⟩
    · simp [vx]
    · simp [vx]
    · simp [vx]
    · simp [vx]
    · cases e; exact vx_tup (viewL_mono (fun d p => ih (by omega)) h1)
    · cases e; exact vx_lst hr hx (viewL_mono (fun d p => ih (by omega)) h1)
theorem viewL_ex {f : D → Option P} : ∀ {ds : List D}, (∀ d ∈ ds, ∃ p, f d = some p) → ∃ ps, viewL f ds = some ps
  | [], _ => ⟨[], rfl⟩
  | d :: ds, h => by
    obtain ⟨p, hp⟩ := h d (by simp)
    obtain ⟨ps, hps⟩ := viewL_ex (ds := ds) fun x hx => h x (by simp [hx])
    exact ⟨p :: ps, viewL_cons.mpr ⟨p, ps, rfl, hp, hps⟩⟩
theorem viewL_mem {f : D → Option P} {ds : List D} {ps : List P} {d : D} (h : viewL f ds = some ps) (hd : d ∈ ds) : ∃ p ∈ ps, f d = some p := by
  obtain ⟨i, hi⟩ := List.mem_iff_getElem?.mp hd
  obtain ⟨p, h1, h2⟩ := viewL_get h hi
  exact ⟨p, List.mem_of_getElem? h1, h2⟩
theorem viewL_memP {f : D → Option P} {ds : List D} {ps : List P} {p : P} (h : viewL f ds = some ps) (hp : p ∈ ps) : ∃ d ∈ ds, f d = some p := by
  obtain ⟨i, hi⟩ := List.mem_iff_getElem?.mp hp
  have hl := viewL_len h
  have h1 := (List.getElem?_eq_some_iff.mp hi).1
  obtain ⟨q, h2, h3⟩ := viewL_get h (List.getElem?_eq_getElem (l := ds) (i := i) (by omega))
  rw [hi] at h2
  cases h2
  exact ⟨_, List.getElem_mem _, h3⟩
theorem viewL_snoc {f : D → Option P} {ds : List D} {ps : List P} {d : D} {p : P} (h : viewL f ds = some ps) (hd : f d = some p) : viewL f (ds ++ [d]) = some (ps ++ [p]) :=
  viewL_append h (viewL_cons.mpr ⟨p, [], rfl, hd, rfl⟩)
end
end Py
end

section
set_option linter.all false
set_option autoImplicit false
/-! The start: a script. -/
namespace Py
open PySem L2
theorem reps_int {K : PySem.W.Frag} {H : Hp} {ι : List Addr} : ∀ (ns : List Int), Reps K H ι (ns.map .int) (ns.map V.int)
  | [] => .nil
  | i :: r => .cons (.int i) (reps_int r)
theorem frz_only {K : PySem.W.Frag} {H : Hp} {a : Addr} {xs : List V} (hO : L2.Only H) (hS : SqL K H a xs) : FrzL K H a xs := by
  rcases hS with (h | ⟨o, h⟩) | h
  · rcases hO a with e | ⟨o, ys, e⟩
    · rw [e] at h; cases h
    · rw [e] at h; cases h
  · exact .inl ⟨o, h⟩
  · exact .inr h
theorem start_sp {K : PySem.W.Frag} {mg : Str → Option Value} {f : F} {H : Hp} {a : Addr} {is : List Int} (hO : L2.Only H) (hS : SqL K H a (is.map V.int)) (h : wp (f [.ref 0] [.frz (is.map .int)]) fun v _ => v = .bl true) :
    spF K mg 1 f [.ref a] H (fun v _ => v = .bl true) fun _ _ _ => False := by
  refine ⟨[.ref 0], [.frz (is.map .int)], [a], ⟨rfl, ?_, ?_⟩, .cons (.ref rfl) .nil, rfl, ?_⟩
  · intro r o b h1 h2
    cases r with
    | zero =>
      simp at h1 h2
      subst h1 h2
      exact ⟨_, frz_only hO hS, reps_int is⟩
    | succ r => simp at h1
  · intro r r' b xs xs' h1 h2 h3 h4
    cases r with
    | zero => simp at h3
    | succ r => simp at h3
  · cases hf : f [.ref 0] [.frz (is.map .int)] with
    | ok v g =>
      rw [hf, wp_ok] at h
      subst h
      intro H' ι' x s v r
      cases r
      rfl
    | exc e g => rw [hf] at h; exact h.elim
    | bad => rw [hf] at h; exact h.elim
end Py
end

section
set_option autoImplicit false
set_option linter.all false
/-! The program of the law as combinators; printed by gen.py. -/
namespace K02
noncomputable section
open Py
def lit_0 : List Char := ['a', 'b', 'c', 'd', 'e', 'f', 'g', 'h', 'i', 'j', 'k', 'l', 'm', 'n', 'o', 'p', 'q', 'r', 's', 't', 'u', 'v', 'w', 'x', 'y', 'z']
def lit_1 : List Char := [' ', '!', '"', '#', '$', '&', '\'', '(', ')', '*', '+', ',', '-', '.', '/', '0', '1', '2', '3', '4', '5', '6', '7', '8', '9', ':', ';', '<', '=', '>', '?', '@', 'A', 'B', 'C', 'D', 'E', 'F', 'G', 'H', 'I', 'J', 'K', 'L', 'M', 'N', 'O', 'P', 'Q', 'R', 'S', 'T', 'U', 'V', 'W', 'X', 'Y', 'Z', '[', '\\', ']', '^', '_', '`']
def lit_2 : List Char := ['a', 'b', 'c', 'd', 'e', 'f', 'g', 'h', 'i', 'j', 'k', 'l', 'm', 'n', 'o', 'p', 'q', 'r', 's', 't', 'u', 'v', 'w', 'x', 'y', 'z', '{', '|', '}', '~']
def b_room_names : S := sRet (mLc (iAny (mOp (p2 oIdx) (mVar 0) (mC (.int 1)))) (gName 1) (tYes) (mOp (p2 oIdx) (mVar 1) (mC (.int 0))) [1])
def f_room_names : F := fn 1 2 b_room_names
def b_is_integer : S := sRet (mAnd (mUn (p1 (oIsi .int)) (mVar 0)) (mNot (mUn (p1 (oIsi .bool)) (mVar 0))))
def f_is_integer : F := fn 1 1 b_is_integer
def b_is_device : S := sRet (mAnd (mCall f_is_integer (mCons (mVar 1) (mNil))) (mChain oLe oLt (mC (.int 0)) (mVar 1) (mUn (p1 oLen) (mOp (p2 oIdx) (mVar 0) (mC (.int 0))))))
def f_is_device : F := fn 2 2 b_is_device
abbrev w1_is_text : S := sIf (tOr (tNot (tVal (mChain oLe oLe (mC (.int 32)) (mUn (p1 oOrd) (mVar 1)) (mC (.int 126))))) (tVal (mOp (p2 oEq) (mUn (p1 oOrd) (mVar 1)) (mC (.int 37))))) (sRet (mC (.bl false))) (sNil)
abbrev q1_is_text : S := sRet (mC (.bl true))
abbrev q2_is_text : S := sSeq (sFor (iAny (mVar 0)) (gName 1) w1_is_text) q1_is_text
def b_is_text : S := sSeq (sIf (tOr (tNot (tVal (mUn (p1 (oIsi .str)) (mVar 0)))) (tVal (mOp (p2 oGt) (mUn (p1 oLen) (mVar 0)) (mC (.int 60))))) (sRet (mC (.bl false))) (sNil)) q2_is_text
def f_is_text : F := fn 1 2 b_is_text
abbrev q1_is_name : S := sRet (mAnd (mCall f_is_integer (mCons (mOp (p2 oIdx) (mVar 1) (mC (.int 0))) (mNil))) (mAnd (mOp (p2 oGe) (mOp (p2 oIdx) (mVar 1) (mC (.int 0))) (mC (.int 1))) (mCall f_is_device (mCons (mVar 0) (mCons (mOp (p2 oIdx) (mVar 1) (mC (.int 1))) (mNil))))))
def b_is_name : S := sSeq (sIf (tOr (tNot (tVal (mUn (p1 (oIsi .tuple)) (mVar 1)))) (tVal (mOp (p2 oNe) (mUn (p1 oLen) (mVar 1)) (mC (.int 2))))) (sRet (mC (.bl false))) (sNil)) q1_is_name
def f_is_name : F := fn 2 2 b_is_name
def b_is_about : S := sRet (mOr (mOp (p2 oIsN) (mVar 1) (mC .non)) (mCall f_is_name (mCons (mVar 0) (mCons (mVar 1) (mNil)))))
def f_is_about : F := fn 2 2 b_is_about
abbrev w1_is_times : S := sIf (tOr (tNot (tVal (mCall f_is_integer (mCons (mVar 2) (mNil))))) (tVal (mOp (p2 oLt) (mVar 2) (mC (.int 0))))) (sRet (mC (.bl false))) (sNil)
abbrev q1_is_times : S := sRet (mC (.bl true))
abbrev q2_is_times : S := sSeq (sFor (iAny (mVar 1)) (gName 2) w1_is_times) q1_is_times
def b_is_times : S := sSeq (sIf (tOr (tNot (tVal (mUn (p1 (oIsi .tuple)) (mVar 1)))) (tVal (mOp (p2 oNe) (mUn (p1 oLen) (mVar 1)) (mUn (p1 oLen) (mOp (p2 oIdx) (mVar 0) (mC (.int 0))))))) (sRet (mC (.bl false))) (sNil)) q2_is_times
def f_is_times : F := fn 2 3 b_is_times
abbrev q1_is_deed : S := sRet (mAnd (mCall f_is_about (mCons (mVar 0) (mCons (mOp (p2 oIdx) (mVar 1) (mC (.int 3))) (mNil)))) (mCall f_is_text (mCons (mOp (p2 oIdx) (mVar 1) (mC (.int 4))) (mNil))))
abbrev q2_is_deed : S := sRet (mAnd (mOp (p2 oIn) (mVar 2) (mTup (mCons (mC (.str ['r', 'e', 'a', 'd'])) (mCons (mC (.str ['c', 'o', 'm', 'e'])) (mCons (mC (.str ['g', 'o'])) (mNil)))))) (mOp (p2 oEq) (mUn (p1 oLen) (mVar 1)) (mC (.int 2))))
abbrev q3_is_deed : S := sSeq (sIf (tVal (mOp (p2 oEq) (mVar 2) (mC (.str ['d', 'r', 'o', 'p'])))) (sRet (mAnd (mOp (p2 oEq) (mUn (p1 oLen) (mVar 1)) (mC (.int 3))) (mCall f_is_name (mCons (mVar 0) (mCons (mOp (p2 oIdx) (mVar 1) (mC (.int 2))) (mNil)))))) (sNil)) q2_is_deed
abbrev q4_is_deed : S := sSeq (sIf (tVal (mOp (p2 oEq) (mVar 2) (mC (.str ['e', 'd', 'i', 't'])))) (sSeq (sIf (tOr (tVal (mOp (p2 oNe) (mUn (p1 oLen) (mVar 1)) (mC (.int 5)))) (tNot (tVal (mCall f_is_name (mCons (mVar 0) (mCons (mOp (p2 oIdx) (mVar 1) (mC (.int 2))) (mNil))))))) (sRet (mC (.bl false))) (sNil)) q1_is_deed) (sNil)) q3_is_deed
abbrev q5_is_deed : S := sSeq (sIf (tVal (mOp (p2 oEq) (mVar 2) (mC (.str ['s', 'a', 'y'])))) (sRet (mAnd (mOp (p2 oEq) (mUn (p1 oLen) (mVar 1)) (mC (.int 4))) (mAnd (mCall f_is_about (mCons (mVar 0) (mCons (mOp (p2 oIdx) (mVar 1) (mC (.int 2))) (mNil)))) (mCall f_is_text (mCons (mOp (p2 oIdx) (mVar 1) (mC (.int 3))) (mNil)))))) (sNil)) q4_is_deed
abbrev q6_is_deed : S := sSeq (sIf (tOr (tNot (tVal (mUn (p1 (oIsi .str)) (mVar 2)))) (tOr (tNot (tVal (mUn (p1 (oIsi .str)) (mVar 3)))) (tVal (mOp (p2 oNotIn) (mVar 3) (mCall f_room_names (mCons (mVar 0) (mNil))))))) (sRet (mC (.bl false))) (sNil)) q5_is_deed
abbrev q7_is_deed : S := sSeq (sAsg (mOp (p2 oIdx) (mVar 1) (mC (.int 1))) (gName 3)) q6_is_deed
abbrev q8_is_deed : S := sSeq (sAsg (mOp (p2 oIdx) (mVar 1) (mC (.int 0))) (gName 2)) q7_is_deed
def b_is_deed : S := sSeq (sIf (tOr (tNot (tVal (mUn (p1 (oIsi .tuple)) (mVar 1)))) (tVal (mOp (p2 oLt) (mUn (p1 oLen) (mVar 1)) (mC (.int 2))))) (sRet (mC (.bl false))) (sNil)) q8_is_deed
def f_is_deed : F := fn 2 4 b_is_deed
abbrev q1_has_shape : S := sRet (mCall f_is_deed (mCons (mVar 0) (mCons (mOp (p2 oIdx) (mVar 1) (mC (.int 3))) (mNil))))
abbrev q2_has_shape : S := sSeq (sIf (tOr (tNot (tVal (mCall f_is_name (mCons (mVar 0) (mCons (mSl (mVar 1) none (some (mC (.int 2)))) (mNil)))))) (tNot (tVal (mCall f_is_times (mCons (mVar 0) (mCons (mOp (p2 oIdx) (mVar 1) (mC (.int 2))) (mNil))))))) (sRet (mC (.bl false))) (sNil)) q1_has_shape
def b_has_shape : S := sSeq (sIf (tOr (tNot (tVal (mUn (p1 (oIsi .tuple)) (mVar 1)))) (tVal (mOp (p2 oNe) (mUn (p1 oLen) (mVar 1)) (mC (.int 4))))) (sRet (mC (.bl false))) (sNil)) q2_has_shape
def f_has_shape : F := fn 2 2 b_has_shape
def b_name_of : S := sRet (mTup (mCons (mOp (p2 oIdx) (mVar 0) (mC (.int 0))) (mCons (mOp (p2 oIdx) (mVar 0) (mC (.int 1))) (mNil))))
def f_name_of : F := fn 1 1 b_name_of
abbrev q1_message_of : S := sRet (mC .non)
abbrev q2_message_of : S := sSeq (sIf (tVal (mOp (p2 oIn) (mOp (p2 oIdx) (mVar 1) (mC (.int 0))) (mTup (mCons (mC (.str ['e', 'd', 'i', 't'])) (mCons (mC (.str ['d', 'r', 'o', 'p'])) (mNil)))))) (sRet (mOp (p2 oIdx) (mVar 1) (mC (.int 2)))) (sNil)) q1_message_of
abbrev q3_message_of : S := sSeq (sIf (tVal (mOp (p2 oEq) (mOp (p2 oIdx) (mVar 1) (mC (.int 0))) (mC (.str ['s', 'a', 'y'])))) (sRet (mCall f_name_of (mCons (mVar 0) (mNil)))) (sNil)) q2_message_of
def b_message_of : S := sSeq (sAsg (mOp (p2 oIdx) (mVar 0) (mC (.int 3))) (gName 1)) q3_message_of
def f_message_of : F := fn 1 2 b_message_of
def b_has_seen : S := sRet (mOp (p2 oLe) (mOp (p2 oIdx) (mVar 1) (mC (.int 0))) (mOp (p2 oIdx) (mOp (p2 oIdx) (mVar 0) (mC (.int 2))) (mOp (p2 oIdx) (mVar 1) (mC (.int 1)))))
def f_has_seen : F := fn 2 2 b_has_seen
abbrev w1__law_seed : S := sAsg (mOp oMod (mUn (p1 oInt) (mOp oAdd (mOp oAdd (mOp oMul (mVar 1) (mC (.int 48271))) (mOp oMod (mUn (p1 oInt) (mOp (p2 oIdx) (mVar 0) (mVar 2))) (mC (.int 2147483629)))) (mVar 2))) (mC (.int 2147483647))) (gName 1)
abbrev q1__law_seed : S := sRet (mVar 1)
abbrev q2__law_seed : S := sSeq (sFor (iRange1 (mOp (p2 oMin) (mUn (p1 oLen) (mVar 0)) (mC (.int 63)))) (gName 2) w1__law_seed) q1__law_seed
def b__law_seed : S := sSeq (sAsg (mC (.int 17)) (gName 1)) q2__law_seed
def f__law_seed : F := fn 1 3 b__law_seed
abbrev q1__law_source : S := sRet (mLst (mCons (mVar 2) (mCons (mVar 4) (mNil))))
abbrev q2__law_source : S := sSeq (sAsg (mOp oMod (mUn (p1 oInt) (mOp oMul (mOp oAdd (mVar 3) (mOp oMul (mVar 1) (mC (.int 7919)))) (mOp oAdd (mOp oAdd (mOp oFdiv (mVar 3) (mC (.int 7))) (mOp oMul (mVar 1) (mC (.int 104729)))) (mC (.int 1))))) (mC (.int 2147483647))) (gName 4)) q1__law_source
abbrev q3__law_source : S := sSeq (sAsg (mCall f__law_seed (mCons (mVar 0) (mNil))) (gName 3)) q2__law_source
abbrev q4__law_source : S := sSeq (sIf (tVal (mOp (p2 oLt) (mVar 1) (mUn (p1 oLen) (mVar 0)))) (sAsg (mOp oMod (mUn (p1 oInt) (mOp (p2 oIdx) (mVar 0) (mVar 1))) (mOp oPow (mOp oPow (mC (.int 10)) (mC (.int 60))) (mC (.int 6)))) (gName 2)) (sNil)) q3__law_source
def b__law_source : S := sSeq (sAsg (mC (.int 0)) (gName 2)) q4__law_source
def f__law_source : F := fn 2 5 b__law_source
abbrev q1__law_take : S := sRet (mOp oMod (mUn (p1 oInt) (mOp oFdiv (mOp (p2 oIdx) (mVar 0) (mC (.int 1))) (mC (.int 16)))) (mVar 1))
abbrev q2__law_take : S := sRet (mVar 2)
abbrev q3__law_take : S := sSeq (sSetI (mVar 0) (mC (.int 0)) (mOp oFdiv (mOp (p2 oIdx) (mVar 0) (mC (.int 0))) (mVar 1))) q2__law_take
abbrev q4__law_take : S := sSeq (sAsg (mOp oMod (mUn (p1 oInt) (mOp (p2 oIdx) (mVar 0) (mC (.int 0)))) (mVar 1)) (gName 2)) q3__law_take
def b__law_take : S := sSeq (sIf (tVal (mOp (p2 oEq) (mOp (p2 oIdx) (mVar 0) (mC (.int 0))) (mC (.int 0)))) (sSeq (sSetI (mVar 0) (mC (.int 1)) (mOp oMod (mUn (p1 oInt) (mOp oAdd (mOp oMul (mOp (p2 oIdx) (mVar 0) (mC (.int 1))) (mC (.int 69621))) (mC (.int 12345)))) (mC (.int 2147483647)))) q1__law_take) (sNil)) q4__law_take
def f__law_take : F := fn 2 3 b__law_take
abbrev q1__law_word : S := sRet (mOp oAdd (mOp oAdd (mSl (mVar 3) none (some (mVar 4))) (mOp (p2 oIdx) (mVar 2) (mCall f__law_take (mCons (mVar 0) (mCons (mC (.int 26)) (mNil)))))) (mSl (mVar 3) (some (mOp oAdd (mVar 4) (mC (.int 1)))) none))
abbrev q2__law_word : S := sSeq (sAsg (mCall f__law_take (mCons (mVar 0) (mCons (mUn (p1 oLen) (mVar 3)) (mNil)))) (gName 4)) q1__law_word
abbrev w1__law_word : S := sAsg (mOp oAdd (mVar 5) (mOp (p2 oIdx) (mVar 2) (mCall f__law_take (mCons (mVar 0) (mCons (mC (.int 26)) (mNil)))))) (gName 5)
abbrev q3__law_word : S := sRet (mVar 5)
abbrev q4__law_word : S := sSeq (sFor (iRange1 (mOp oAdd (mC (.int 1)) (mCall f__law_take (mCons (mVar 0) (mCons (mC (.int 8)) (mNil)))))) (gName 6) w1__law_word) q3__law_word
abbrev q5__law_word : S := sSeq (sAsg (mC (.str [])) (gName 5)) q4__law_word
abbrev q6__law_word : S := sSeq (sIf (tAnd (tVal (mOp (p2 oGt) (mUn (p1 oLen) (mVar 1)) (mC (.int 0)))) (tVal (mOp (p2 oEq) (mCall f__law_take (mCons (mVar 0) (mCons (mC (.int 3)) (mNil)))) (mC (.int 0))))) (sSeq (sAsg (mOp (p2 oIdx) (mVar 1) (mCall f__law_take (mCons (mVar 0) (mCons (mUn (p1 oLen) (mVar 1)) (mNil))))) (gName 3)) q2__law_word) (sNil)) q5__law_word
def b__law_word : S := sSeq (sAsg (mC (.str lit_0)) (gName 2)) q6__law_word
def f__law_word : F := fn 2 7 b__law_word
abbrev w1__law_house : S := sExpr (mApp (mVar 1) (mCall f__law_word (mCons (mVar 0) (mCons (mVar 1) (mNil)))))
abbrev w2__law_house : S := sExpr (mApp (mVar 3) (mOp (p2 oIdx) (mVar 1) (mCall f__law_take (mCons (mVar 0) (mCons (mUn (p1 oLen) (mVar 1)) (mNil))))))
abbrev q1__law_house : S := sExpr (mApp (mVar 4) (mTup (mCons (mVar 6) (mCons (mVar 7) (mNil)))))
abbrev q2__law_house : S := sIf (tVal (mOp (p2 oNotIn) (mVar 6) (mVar 5))) (sSeq (sExpr (mApp (mVar 5) (mVar 6))) q1__law_house) (sNil)
abbrev q3__law_house : S := sSeq (sIf (tVal (mOp (p2 oGt) (mCall f__law_take (mCons (mVar 0) (mCons (mC (.int 3)) (mNil)))) (mC (.int 0)))) (sAsg (mOp (p2 oIdx) (mVar 3) (mCall f__law_take (mCons (mVar 0) (mCons (mUn (p1 oLen) (mVar 3)) (mNil))))) (gName 7)) (sNil)) q2__law_house
abbrev q4__law_house : S := sSeq (sAsg (mC (.str [])) (gName 7)) q3__law_house
abbrev w3__law_house : S := sSeq (sAsg (mCall f__law_word (mCons (mVar 0) (mCons (mOp oAdd (mVar 1) (mVar 5)) (mNil)))) (gName 6)) q4__law_house
abbrev q5__law_house : S := sRet (mTup (mCons (mUn (oTuple) (mVar 3)) (mCons (mUn (oTuple) (mVar 4)) (mNil))))
abbrev q6__law_house : S := sSeq (sFor (iRange1 (mOp oAdd (mC (.int 1)) (mCall f__law_take (mCons (mVar 0) (mCons (mC (.int 6)) (mNil)))))) (gName 2) w3__law_house) q5__law_house
abbrev q7__law_house : S := sSeq (sAsg (mLst (mNil)) (gName 5)) q6__law_house
abbrev q8__law_house : S := sSeq (sAsg (mLst (mNil)) (gName 4)) q7__law_house
abbrev q9__law_house : S := sSeq (sFor (iRange1 (mOp oAdd (mC (.int 1)) (mCall f__law_take (mCons (mVar 0) (mCons (mC (.int 8)) (mNil)))))) (gName 2) w2__law_house) q8__law_house
abbrev q10__law_house : S := sSeq (sAsg (mLst (mNil)) (gName 3)) q9__law_house
abbrev q11__law_house : S := sSeq (sFor (iRange1 (mOp oAdd (mC (.int 1)) (mCall f__law_take (mCons (mVar 0) (mCons (mC (.int 4)) (mNil)))))) (gName 2) w1__law_house) q10__law_house
def b__law_house : S := sSeq (sAsg (mLst (mNil)) (gName 1)) q11__law_house
def f__law_house : F := fn 1 8 b__law_house
abbrev w1__law_same (rec : F) : S := sIf (tNot (tVal (mCall rec (mCons (mOp (p2 oIdx) (mVar 0) (mVar 2)) (mCons (mOp (p2 oIdx) (mVar 1) (mVar 2)) (mNil)))))) (sRet (mC (.bl false))) (sNil)
abbrev q1__law_same (rec : F) : S := sRet (mC (.bl true))
abbrev q2__law_same (rec : F) : S := sSeq (sFor (iRange1 (mUn (p1 oLen) (mVar 1))) (gName 2) (w1__law_same rec)) (q1__law_same rec)
abbrev q3__law_same (rec : F) : S := sSeq (sIf (tVal (mUn (p1 (oIsi .tuple)) (mVar 1))) (sIf (tOr (tNot (tVal (mUn (p1 (oIsi .tuple)) (mVar 0)))) (tVal (mOp (p2 oNe) (mUn (p1 oLen) (mVar 0)) (mUn (p1 oLen) (mVar 1))))) (sRet (mC (.bl false))) (sNil)) (sIf (tOr (tNot (tVal (mUn (p1 (oIsi .list)) (mVar 0)))) (tVal (mOp (p2 oNe) (mUn (p1 oLen) (mVar 0)) (mUn (p1 oLen) (mVar 1))))) (sRet (mC (.bl false))) (sNil))) (q2__law_same rec)
abbrev q4__law_same (rec : F) : S := sSeq (sIf (tVal (mUn (p1 (oIsi .str)) (mVar 1))) (sRet (mAnd (mUn (p1 (oIsi .str)) (mVar 0)) (mOp (p2 oEq) (mVar 0) (mVar 1)))) (sNil)) (q3__law_same rec)
abbrev q5__law_same (rec : F) : S := sSeq (sIf (tVal (mUn (p1 (oIsi .int)) (mVar 1))) (sRet (mAnd (mUn (p1 (oIsi .int)) (mVar 0)) (mAnd (mNot (mUn (p1 (oIsi .bool)) (mVar 0))) (mOp (p2 oEq) (mVar 0) (mVar 1))))) (sNil)) (q4__law_same rec)
abbrev q6__law_same (rec : F) : S := sSeq (sIf (tVal (mUn (p1 (oIsi .bool)) (mVar 1))) (sRet (mAnd (mUn (p1 (oIsi .bool)) (mVar 0)) (mOp (p2 oEq) (mVar 0) (mVar 1)))) (sNil)) (q5__law_same rec)
def b__law_same (rec : F) : S := sSeq (sIf (tVal (mOp (p2 oIsN) (mVar 1) (mC .non))) (sRet (mOp (p2 oIsN) (mVar 0) (mC .non))) (sNil)) (q6__law_same rec)
def f__law_same : Nat → F
  | 0 => fun _ _ => .bad
  | k + 1 => fn 2 3 (b__law_same (f__law_same k))
abbrev q1__law_copy (rec : F) : S := sRet (mVar 0)
abbrev q2__law_copy (rec : F) : S := sSeq (sIf (tVal (mUn (p1 (oIsi .tuple)) (mVar 0))) (sRet (mUn (oTuple) (mLc (iAny (mVar 0)) (gName 1) (tYes) (mCall rec (mCons (mVar 1) (mNil))) [1]))) (sNil)) (q1__law_copy rec)
def b__law_copy (rec : F) : S := sSeq (sIf (tVal (mUn (p1 (oIsi .list)) (mVar 0))) (sRet (mLc (iAny (mVar 0)) (gName 1) (tYes) (mCall rec (mCons (mVar 1) (mNil))) [1])) (sNil)) (q2__law_copy rec)
def f__law_copy : Nat → F
  | 0 => fun _ _ => .bad
  | k + 1 => fn 1 2 (b__law_copy (f__law_copy k))
abbrev q1__law_signs : S := sRet (mOp oAdd (mVar 0) (mC (.str lit_2)))
def b__law_signs : S := sSeq (sAsg (mC (.str lit_1)) (gName 0)) q1__law_signs
def f__law_signs : F := fn 0 1 b__law_signs
abbrev w1__law_text : S := sAsg (mOp oAdd (mVar 3) (mOp (p2 oIdx) (mVar 1) (mCall f__law_take (mCons (mVar 0) (mCons (mC (.int 94)) (mNil)))))) (gName 3)
abbrev q1__law_text : S := sRet (mVar 3)
abbrev q2__law_text : S := sSeq (sFor (iRange1 (mOp (p2 oIdx) (mVar 2) (mCall f__law_take (mCons (mVar 0) (mCons (mC (.int 5)) (mNil)))))) (gName 4) w1__law_text) q1__law_text
abbrev q3__law_text : S := sSeq (sAsg (mC (.str [])) (gName 3)) q2__law_text
abbrev q4__law_text : S := sSeq (sAsg (mLst (mCons (mC (.int 0)) (mCons (mC (.int 1)) (mCons (mC (.int 59)) (mCons (mC (.int 60)) (mCons (mCall f__law_take (mCons (mVar 0) (mCons (mC (.int 61)) (mNil)))) (mNil))))))) (gName 2)) q3__law_text
def b__law_text : S := sSeq (sAsg (mCall f__law_signs mNil) (gName 1)) q4__law_text
def f__law_text : F := fn 1 5 b__law_text
def b__law_is_int : S := sRet (mAnd (mUn (p1 (oIsi .int)) (mVar 0)) (mNot (mUn (p1 (oIsi .bool)) (mVar 0))))
def f__law_is_int : F := fn 1 1 b__law_is_int
abbrev w1__law_is_text : S := sIf (tVal (mOp (p2 oNotIn) (mVar 2) (mVar 1))) (sRet (mC (.bl false))) (sNil)
abbrev q1__law_is_text : S := sRet (mC (.bl true))
abbrev q2__law_is_text : S := sSeq (sFor (iAny (mVar 0)) (gName 2) w1__law_is_text) q1__law_is_text
abbrev q3__law_is_text : S := sSeq (sAsg (mCall f__law_signs mNil) (gName 1)) q2__law_is_text
def b__law_is_text : S := sSeq (sIf (tOr (tNot (tVal (mUn (p1 (oIsi .str)) (mVar 0)))) (tVal (mOp (p2 oGt) (mUn (p1 oLen) (mVar 0)) (mC (.int 60))))) (sRet (mC (.bl false))) (sNil)) q3__law_is_text
def f__law_is_text : F := fn 1 3 b__law_is_text
abbrev q1__law_is_name : S := sRet (mAnd (mOp (p2 oGe) (mOp (p2 oIdx) (mVar 1) (mC (.int 0))) (mC (.int 1))) (mAnd (mOp (p2 oGe) (mOp (p2 oIdx) (mVar 1) (mC (.int 1))) (mC (.int 0))) (mOp (p2 oLt) (mOp (p2 oIdx) (mVar 1) (mC (.int 1))) (mUn (p1 oLen) (mOp (p2 oIdx) (mVar 0) (mC (.int 0)))))))
abbrev q2__law_is_name : S := sSeq (sIf (tOr (tNot (tVal (mCall f__law_is_int (mCons (mOp (p2 oIdx) (mVar 1) (mC (.int 0))) (mNil))))) (tNot (tVal (mCall f__law_is_int (mCons (mOp (p2 oIdx) (mVar 1) (mC (.int 1))) (mNil)))))) (sRet (mC (.bl false))) (sNil)) q1__law_is_name
def b__law_is_name : S := sSeq (sIf (tOr (tNot (tVal (mUn (p1 (oIsi .tuple)) (mVar 1)))) (tVal (mOp (p2 oNe) (mUn (p1 oLen) (mVar 1)) (mC (.int 2))))) (sRet (mC (.bl false))) (sNil)) q2__law_is_name
def f__law_is_name : F := fn 2 2 b__law_is_name
abbrev q1__law_is_deed : S := sRet (mOr (mOp (p2 oIsN) (mOp (p2 oIdx) (mVar 1) (mC (.int 3))) (mC .non)) (mCall f__law_is_name (mCons (mVar 0) (mCons (mOp (p2 oIdx) (mVar 1) (mC (.int 3))) (mNil)))))
abbrev q2__law_is_deed : S := sRet (mAnd (mOp (p2 oIn) (mOp (p2 oIdx) (mVar 1) (mC (.int 0))) (mLst (mCons (mC (.str ['r', 'e', 'a', 'd'])) (mCons (mC (.str ['c', 'o', 'm', 'e'])) (mCons (mC (.str ['g', 'o'])) (mNil)))))) (mOp (p2 oEq) (mUn (p1 oLen) (mVar 1)) (mC (.int 2))))
abbrev q3__law_is_deed : S := sSeq (sIf (tAnd (tVal (mOp (p2 oEq) (mOp (p2 oIdx) (mVar 1) (mC (.int 0))) (mC (.str ['d', 'r', 'o', 'p'])))) (tVal (mOp (p2 oEq) (mUn (p1 oLen) (mVar 1)) (mC (.int 3))))) (sRet (mCall f__law_is_name (mCons (mVar 0) (mCons (mOp (p2 oIdx) (mVar 1) (mC (.int 2))) (mNil))))) (sNil)) q2__law_is_deed
abbrev q4__law_is_deed : S := sSeq (sIf (tAnd (tVal (mOp (p2 oEq) (mOp (p2 oIdx) (mVar 1) (mC (.int 0))) (mC (.str ['e', 'd', 'i', 't'])))) (tVal (mOp (p2 oEq) (mUn (p1 oLen) (mVar 1)) (mC (.int 5))))) (sSeq (sIf (tOr (tNot (tVal (mCall f__law_is_name (mCons (mVar 0) (mCons (mOp (p2 oIdx) (mVar 1) (mC (.int 2))) (mNil)))))) (tNot (tVal (mCall f__law_is_text (mCons (mOp (p2 oIdx) (mVar 1) (mC (.int 4))) (mNil)))))) (sRet (mC (.bl false))) (sNil)) q1__law_is_deed) (sNil)) q3__law_is_deed
abbrev q5__law_is_deed : S := sSeq (sIf (tAnd (tVal (mOp (p2 oEq) (mOp (p2 oIdx) (mVar 1) (mC (.int 0))) (mC (.str ['s', 'a', 'y'])))) (tVal (mOp (p2 oEq) (mUn (p1 oLen) (mVar 1)) (mC (.int 4))))) (sRet (mAnd (mOr (mOp (p2 oIsN) (mOp (p2 oIdx) (mVar 1) (mC (.int 2))) (mC .non)) (mCall f__law_is_name (mCons (mVar 0) (mCons (mOp (p2 oIdx) (mVar 1) (mC (.int 2))) (mNil))))) (mCall f__law_is_text (mCons (mOp (p2 oIdx) (mVar 1) (mC (.int 3))) (mNil))))) (sNil)) q4__law_is_deed
abbrev q6__law_is_deed : S := sSeq (sIf (tVal (mOp (p2 oNotIn) (mOp (p2 oIdx) (mVar 1) (mC (.int 1))) (mLc (iAny (mOp (p2 oIdx) (mVar 0) (mC (.int 1)))) (gName 2) (tYes) (mOp (p2 oIdx) (mVar 2) (mC (.int 0))) [2]))) (sRet (mC (.bl false))) (sNil)) q5__law_is_deed
abbrev q7__law_is_deed : S := sSeq (sIf (tOr (tNot (tVal (mUn (p1 (oIsi .str)) (mOp (p2 oIdx) (mVar 1) (mC (.int 0)))))) (tNot (tVal (mUn (p1 (oIsi .str)) (mOp (p2 oIdx) (mVar 1) (mC (.int 1))))))) (sRet (mC (.bl false))) (sNil)) q6__law_is_deed
def b__law_is_deed : S := sSeq (sIf (tOr (tNot (tVal (mUn (p1 (oIsi .tuple)) (mVar 1)))) (tVal (mOp (p2 oLt) (mUn (p1 oLen) (mVar 1)) (mC (.int 2))))) (sRet (mC (.bl false))) (sNil)) q7__law_is_deed
def f__law_is_deed : F := fn 2 3 b__law_is_deed
abbrev w1__law_shape : S := sIf (tOr (tNot (tVal (mCall f__law_is_int (mCons (mVar 2) (mNil))))) (tVal (mOp (p2 oLt) (mVar 2) (mC (.int 0))))) (sRet (mC (.bl false))) (sNil)
abbrev q1__law_shape : S := sRet (mCall f__law_is_deed (mCons (mVar 0) (mCons (mOp (p2 oIdx) (mVar 1) (mC (.int 3))) (mNil))))
abbrev q2__law_shape : S := sSeq (sFor (iAny (mOp (p2 oIdx) (mVar 1) (mC (.int 2)))) (gName 2) w1__law_shape) q1__law_shape
abbrev q3__law_shape : S := sSeq (sIf (tOr (tNot (tVal (mUn (p1 (oIsi .tuple)) (mOp (p2 oIdx) (mVar 1) (mC (.int 2)))))) (tVal (mOp (p2 oNe) (mUn (p1 oLen) (mOp (p2 oIdx) (mVar 1) (mC (.int 2)))) (mUn (p1 oLen) (mOp (p2 oIdx) (mVar 0) (mC (.int 0))))))) (sRet (mC (.bl false))) (sNil)) q2__law_shape
abbrev q4__law_shape : S := sSeq (sIf (tNot (tVal (mCall f__law_is_name (mCons (mVar 0) (mCons (mTup (mCons (mOp (p2 oIdx) (mVar 1) (mC (.int 0))) (mCons (mOp (p2 oIdx) (mVar 1) (mC (.int 1))) (mNil)))) (mNil)))))) (sRet (mC (.bl false))) (sNil)) q3__law_shape
def b__law_shape : S := sSeq (sIf (tOr (tNot (tVal (mUn (p1 (oIsi .tuple)) (mVar 1)))) (tVal (mOp (p2 oNe) (mUn (p1 oLen) (mVar 1)) (mC (.int 4))))) (sRet (mC (.bl false))) (sNil)) q4__law_shape
def f__law_shape : F := fn 2 3 b__law_shape
def b__law_put : S := sRet (mOp oAdd (mOp oAdd (mSl (mVar 0) none (some (mVar 1))) (mTup (mCons (mVar 2) (mNil)))) (mSl (mVar 0) (some (mOp oAdd (mVar 1) (mC (.int 1)))) none))
def f__law_put : F := fn 3 3 b__law_put
abbrev q1__law_odd : S := sRet (mOp (p2 oIdx) (mVar 2) (mCall f__law_take (mCons (mVar 0) (mCons (mC (.int 26)) (mNil)))))
abbrev q2__law_odd : S := sSeq (sAsg (mOp oAdd (mVar 2) (mLst (mCons (mTup (mCons (mC (.bl true)) (mCons (mC (.int 0)) (mNil)))) (mCons (mTup (mCons (mC (.int 1)) (mCons (mVar 1) (mNil)))) (mCons (mTup (mCons (mC (.int 1)) (mCons (mUn oNeg (mC (.int 1))) (mNil)))) (mCons (mTup (mCons (mC (.int 1)) (mNil))) (mCons (mTup (mCons (mC (.int 1)) (mCons (mC (.int 0)) (mCons (mC (.int 0)) (mNil))))) (mCons (mTup (mCons (mTup (mCons (mC (.int 1)) (mCons (mC (.int 0)) (mNil)))) (mNil))) (mCons (mOp oMul (mC (.str ['a'])) (mC (.int 61))) (mCons (mTup (mCons (mC (.int 1)) (mCons (mC (.str ['0'])) (mNil)))) (mNil))))))))))) (gName 2)) q1__law_odd
def b__law_odd : S := sSeq (sAsg (mLst (mCons (mC .non) (mCons (mC (.bl true)) (mCons (mC (.bl false)) (mCons (mUn oNeg (mC (.int 1))) (mCons (mC (.int 0)) (mCons (mC (.int 1)) (mCons (mC (.int 2)) (mCons (mVar 1) (mCons (mC (.str [])) (mCons (mC (.str ['s', 'a', 'y'])) (mCons (mC (.str ['e', 'd', 'i', 't'])) (mCons (mC (.str ['a', '\n'])) (mCons (mTup (mNil)) (mCons (mLst (mNil)) (mCons (mTup (mCons (mC (.int 1)) (mCons (mC (.int 0)) (mNil)))) (mCons (mLst (mCons (mC (.int 1)) (mCons (mC (.int 0)) (mNil)))) (mCons (mTup (mCons (mC (.int 0)) (mCons (mC (.int 0)) (mNil)))) (mCons (mTup (mCons (mC (.int 1)) (mCons (mC (.bl true)) (mNil)))) (mNil)))))))))))))))))))) (gName 2)) q2__law_odd
def f__law_odd : F := fn 2 3 b__law_odd
def b__law_name : S := sRet (mTup (mCons (mOp oAdd (mC (.int 1)) (mCall f__law_take (mCons (mVar 0) (mCons (mOp (p2 oIdx) (mLst (mCons (mC (.int 4)) (mCons (mC (.int 30)) (mCons (mOp oPow (mC (.int 10)) (mC (.int 20))) (mNil))))) (mCall f__law_take (mCons (mVar 0) (mCons (mC (.int 3)) (mNil))))) (mNil))))) (mCons (mCall f__law_take (mCons (mVar 0) (mCons (mVar 1) (mNil)))) (mNil))))
def f__law_name : F := fn 2 2 b__law_name
abbrev q1__law_deed : S := sRet (mTup (mCons (mOp (p2 oIdx) (mLst (mCons (mC (.str ['r', 'e', 'a', 'd'])) (mCons (mC (.str ['c', 'o', 'm', 'e'])) (mCons (mC (.str ['g', 'o'])) (mNil))))) (mOp oSub (mVar 5) (mC (.int 5)))) (mCons (mVar 3) (mNil))))
abbrev q2__law_deed : S := sSeq (sIf (tVal (mOp (p2 oEq) (mVar 5) (mC (.int 4)))) (sRet (mTup (mCons (mC (.str ['d', 'r', 'o', 'p'])) (mCons (mVar 3) (mCons (mCall f__law_name (mCons (mVar 0) (mCons (mVar 2) (mNil)))) (mNil)))))) (sNil)) q1__law_deed
abbrev q3__law_deed : S := sSeq (sIf (tVal (mOp (p2 oLt) (mVar 5) (mC (.int 4)))) (sRet (mTup (mCons (mC (.str ['e', 'd', 'i', 't'])) (mCons (mVar 3) (mCons (mCall f__law_name (mCons (mVar 0) (mCons (mVar 2) (mNil)))) (mCons (mVar 4) (mCons (mCall f__law_text (mCons (mVar 0) (mNil))) (mNil)))))))) (sNil)) q2__law_deed
abbrev q4__law_deed : S := sSeq (sIf (tVal (mOp (p2 oLt) (mVar 5) (mC (.int 2)))) (sRet (mTup (mCons (mC (.str ['s', 'a', 'y'])) (mCons (mVar 3) (mCons (mVar 4) (mCons (mCall f__law_text (mCons (mVar 0) (mNil))) (mNil))))))) (sNil)) q3__law_deed
abbrev q5__law_deed : S := sSeq (sAsg (mCall f__law_take (mCons (mVar 0) (mCons (mC (.int 8)) (mNil)))) (gName 5)) q4__law_deed
abbrev q6__law_deed : S := sSeq (sIf (tVal (mOp (p2 oEq) (mCall f__law_take (mCons (mVar 0) (mCons (mC (.int 2)) (mNil)))) (mC (.int 1)))) (sAsg (mCall f__law_name (mCons (mVar 0) (mCons (mVar 2) (mNil)))) (gName 4)) (sNil)) q5__law_deed
abbrev q7__law_deed : S := sSeq (sAsg (mC .non) (gName 4)) q6__law_deed
abbrev q8__law_deed : S := sSeq (sAsg (mOp (p2 oIdx) (mOp (p2 oIdx) (mOp (p2 oIdx) (mVar 1) (mC (.int 1))) (mCall f__law_take (mCons (mVar 0) (mCons (mUn (p1 oLen) (mOp (p2 oIdx) (mVar 1) (mC (.int 1)))) (mNil))))) (mC (.int 0))) (gName 3)) q7__law_deed
def b__law_deed : S := sSeq (sAsg (mUn (p1 oLen) (mOp (p2 oIdx) (mVar 1) (mC (.int 0)))) (gName 2)) q8__law_deed
def f__law_deed : F := fn 2 6 b__law_deed
abbrev w1__law_entry : S := sExpr (mApp (mVar 3) (mCall f__law_take (mCons (mVar 0) (mCons (mOp (p2 oIdx) (mLst (mCons (mC (.int 1)) (mCons (mC (.int 4)) (mCons (mC (.int 30)) (mCons (mOp oPow (mC (.int 10)) (mC (.int 9))) (mNil)))))) (mCall f__law_take (mCons (mVar 0) (mCons (mC (.int 4)) (mNil))))) (mNil)))))
abbrev q1__law_entry : S := sRet (mTup (mCons (mOp (p2 oIdx) (mVar 5) (mC (.int 0))) (mCons (mOp (p2 oIdx) (mVar 5) (mC (.int 1))) (mCons (mUn (oTuple) (mVar 3)) (mCons (mCall f__law_deed (mCons (mVar 0) (mCons (mVar 1) (mNil)))) (mNil))))))
abbrev q2__law_entry : S := sSeq (sAsg (mCall f__law_name (mCons (mVar 0) (mCons (mVar 2) (mNil)))) (gName 5)) q1__law_entry
abbrev q3__law_entry : S := sSeq (sFor (iRange1 (mVar 2)) (gName 4) w1__law_entry) q2__law_entry
abbrev q4__law_entry : S := sSeq (sAsg (mLst (mNil)) (gName 3)) q3__law_entry
def b__law_entry : S := sSeq (sAsg (mUn (p1 oLen) (mOp (p2 oIdx) (mVar 1) (mC (.int 0)))) (gName 2)) q4__law_entry
def f__law_entry : F := fn 2 6 b__law_entry
abbrev q1__law_spoil_deed : S := sRet (mCall f__law_put (mCons (mVar 2) (mCons (mC (.int 0)) (mCons (mOp (p2 oIdx) (mVar 7) (mCall f__law_take (mCons (mVar 0) (mCons (mC (.int 8)) (mNil))))) (mNil)))))
abbrev q2__law_spoil_deed : S := sRet (mCall f__law_put (mCons (mVar 2) (mCons (mVar 4) (mCons (mOp oAdd (mOp oAdd (mSl (mVar 8) none (some (mVar 9))) (mOp (p2 oIdx) (mC (.str ['\n', '\t', '~', ' '])) (mCall f__law_take (mCons (mVar 0) (mCons (mC (.int 4)) (mNil)))))) (mSl (mVar 8) (some (mOp oAdd (mVar 9) (mC (.int 1)))) none)) (mNil)))))
abbrev q3__law_spoil_deed : S := sRet (mCall f__law_put (mCons (mVar 2) (mCons (mVar 4) (mCons (mVar 6) (mNil)))))
abbrev q4__law_spoil_deed : S := sSeq (sIf (tAnd (tVal (mOp (p2 oEq) (mVar 5) (mC (.int 6)))) (tVal (mUn (p1 (oIsi .str)) (mVar 8)))) (sRet (mCall f__law_put (mCons (mVar 2) (mCons (mVar 4) (mCons (mSl (mOp oAdd (mVar 8) (mOp oMul (mC (.str ['a'])) (mC (.int 61)))) none (some (mOp oAdd (mC (.int 60)) (mCall f__law_take (mCons (mVar 0) (mCons (mC (.int 2)) (mNil))))))) (mNil)))))) (sNil)) q3__law_spoil_deed
abbrev q5__law_spoil_deed : S := sSeq (sIf (tAnd (tVal (mOp (p2 oEq) (mVar 5) (mC (.int 5)))) (tVal (mUn (p1 (oIsi .str)) (mVar 8)))) (sSeq (sAsg (mCall f__law_take (mCons (mVar 0) (mCons (mOp oAdd (mUn (p1 oLen) (mVar 8)) (mC (.int 1))) (mNil)))) (gName 9)) q2__law_spoil_deed) (sNil)) q4__law_spoil_deed
abbrev q6__law_spoil_deed : S := sSeq (sIf (tAnd (tVal (mOp (p2 oEq) (mVar 5) (mC (.int 4)))) (tVal (mUn (p1 (oIsi .tuple)) (mVar 8)))) (sRet (mCall f__law_put (mCons (mVar 2) (mCons (mVar 4) (mCons (mCall f__law_put (mCons (mVar 8) (mCons (mCall f__law_take (mCons (mVar 0) (mCons (mC (.int 2)) (mNil)))) (mCons (mVar 6) (mNil))))) (mNil)))))) (sNil)) q5__law_spoil_deed
abbrev q7__law_spoil_deed : S := sSeq (sAsg (mOp (p2 oIdx) (mVar 2) (mVar 4)) (gName 8)) q6__law_spoil_deed
abbrev q8__law_spoil_deed : S := sSeq (sIf (tVal (mOp (p2 oEq) (mVar 5) (mC (.int 3)))) (sSeq (sAsg (mLst (mCons (mC (.str ['s', 'a', 'y'])) (mCons (mC (.str ['e', 'd', 'i', 't'])) (mCons (mC (.str ['d', 'r', 'o', 'p'])) (mCons (mC (.str ['r', 'e', 'a', 'd'])) (mCons (mC (.str ['c', 'o', 'm', 'e'])) (mCons (mC (.str ['g', 'o'])) (mCons (mC (.str ['S', 'a', 'y'])) (mCons (mC (.str ['r', 'e', 'a', 'd', 's'])) (mNil)))))))))) (gName 7)) q1__law_spoil_deed) (sNil)) q7__law_spoil_deed
abbrev q9__law_spoil_deed : S := sSeq (sIf (tVal (mOp (p2 oEq) (mVar 5) (mC (.int 2)))) (sRet (mOp oAdd (mVar 2) (mTup (mCons (mVar 6) (mNil))))) (sNil)) q8__law_spoil_deed
abbrev q10__law_spoil_deed : S := sSeq (sIf (tVal (mOp (p2 oEq) (mVar 5) (mC (.int 1)))) (sRet (mSl (mVar 2) none (some (mOp oSub (mUn (p1 oLen) (mVar 2)) (mC (.int 1)))))) (sNil)) q9__law_spoil_deed
abbrev q11__law_spoil_deed : S := sSeq (sIf (tVal (mOp (p2 oEq) (mVar 5) (mC (.int 0)))) (sRet (mUn (oList) (mVar 2))) (sNil)) q10__law_spoil_deed
abbrev q12__law_spoil_deed : S := sSeq (sAsg (mCall f__law_odd (mCons (mVar 0) (mCons (mVar 3) (mNil)))) (gName 6)) q11__law_spoil_deed
abbrev q13__law_spoil_deed : S := sSeq (sAsg (mCall f__law_take (mCons (mVar 0) (mCons (mC (.int 8)) (mNil)))) (gName 5)) q12__law_spoil_deed
abbrev q14__law_spoil_deed : S := sSeq (sAsg (mCall f__law_take (mCons (mVar 0) (mCons (mUn (p1 oLen) (mVar 2)) (mNil)))) (gName 4)) q13__law_spoil_deed
def b__law_spoil_deed : S := sSeq (sAsg (mUn (p1 oLen) (mOp (p2 oIdx) (mVar 1) (mC (.int 0)))) (gName 3)) q14__law_spoil_deed
def f__law_spoil_deed : F := fn 3 10 b__law_spoil_deed
abbrev q1__law_spoil : S := sRet (mCall f__law_put (mCons (mVar 2) (mCons (mC (.int 3)) (mCons (mCall f__law_spoil_deed (mCons (mVar 0) (mCons (mVar 1) (mCons (mOp (p2 oIdx) (mVar 2) (mC (.int 3))) (mNil))))) (mNil)))))
abbrev q2__law_spoil : S := sSeq (sIf (tVal (mOp (p2 oLt) (mVar 5) (mC (.int 11)))) (sRet (mCall f__law_put (mCons (mVar 2) (mCons (mC (.int 2)) (mCons (mCall f__law_put (mCons (mVar 4) (mCons (mCall f__law_take (mCons (mVar 0) (mCons (mVar 3) (mNil)))) (mCons (mVar 6) (mNil))))) (mNil)))))) (sNil)) q1__law_spoil
abbrev q3__law_spoil : S := sSeq (sIf (tVal (mOp (p2 oEq) (mVar 5) (mC (.int 8)))) (sRet (mCall f__law_put (mCons (mVar 2) (mCons (mC (.int 2)) (mCons (mOp oAdd (mVar 4) (mTup (mCons (mC (.int 0)) (mNil)))) (mNil)))))) (sNil)) q2__law_spoil
abbrev q4__law_spoil : S := sSeq (sIf (tVal (mOp (p2 oEq) (mVar 5) (mC (.int 7)))) (sRet (mCall f__law_put (mCons (mVar 2) (mCons (mC (.int 2)) (mCons (mSl (mVar 4) none (some (mOp oSub (mVar 3) (mC (.int 1))))) (mNil)))))) (sNil)) q3__law_spoil
abbrev q5__law_spoil : S := sSeq (sIf (tVal (mOp (p2 oEq) (mVar 5) (mC (.int 6)))) (sRet (mCall f__law_put (mCons (mVar 2) (mCons (mC (.int 2)) (mCons (mUn (oList) (mVar 4)) (mNil)))))) (sNil)) q4__law_spoil
abbrev q6__law_spoil : S := sSeq (sIf (tVal (mOp (p2 oEq) (mVar 5) (mC (.int 5)))) (sRet (mCall f__law_put (mCons (mVar 2) (mCons (mC (.int 1)) (mCons (mOp (p2 oIdx) (mLst (mCons (mVar 3) (mCons (mUn oNeg (mC (.int 1))) (mCons (mC (.int 0)) (mCons (mOp oSub (mVar 3) (mC (.int 1))) (mNil)))))) (mCall f__law_take (mCons (mVar 0) (mCons (mC (.int 4)) (mNil))))) (mNil)))))) (sNil)) q5__law_spoil
abbrev q7__law_spoil : S := sSeq (sIf (tVal (mOp (p2 oLt) (mVar 5) (mC (.int 5)))) (sRet (mCall f__law_put (mCons (mVar 2) (mCons (mCall f__law_take (mCons (mVar 0) (mCons (mC (.int 4)) (mNil)))) (mCons (mVar 6) (mNil)))))) (sNil)) q6__law_spoil
abbrev q8__law_spoil : S := sSeq (sIf (tVal (mOp (p2 oEq) (mVar 5) (mC (.int 2)))) (sRet (mOp oAdd (mVar 2) (mTup (mCons (mVar 6) (mNil))))) (sNil)) q7__law_spoil
abbrev q9__law_spoil : S := sSeq (sIf (tVal (mOp (p2 oEq) (mVar 5) (mC (.int 1)))) (sRet (mSl (mVar 2) none (some (mC (.int 3))))) (sNil)) q8__law_spoil
abbrev q10__law_spoil : S := sSeq (sIf (tVal (mOp (p2 oEq) (mVar 5) (mC (.int 0)))) (sRet (mUn (oList) (mVar 2))) (sNil)) q9__law_spoil
abbrev q11__law_spoil : S := sSeq (sAsg (mCall f__law_odd (mCons (mVar 0) (mCons (mVar 3) (mNil)))) (gName 6)) q10__law_spoil
abbrev q12__law_spoil : S := sSeq (sAsg (mCall f__law_take (mCons (mVar 0) (mCons (mC (.int 16)) (mNil)))) (gName 5)) q11__law_spoil
abbrev q13__law_spoil : S := sSeq (sAsg (mOp (p2 oIdx) (mVar 2) (mC (.int 2))) (gName 4)) q12__law_spoil
def b__law_spoil : S := sSeq (sAsg (mUn (p1 oLen) (mOp (p2 oIdx) (mVar 1) (mC (.int 0)))) (gName 3)) q13__law_spoil
def f__law_spoil : F := fn 3 7 b__law_spoil
abbrev w1__law_parts : S := sExpr (mApp (mVar 1) (mVar 3))
abbrev q1__law_parts : S := sIf (tOr (tVal (mUn (p1 (oIsi .tuple)) (mVar 2))) (tVal (mUn (p1 (oIsi .list)) (mVar 2)))) (sFor (iAny (mVar 2)) (gName 3) w1__law_parts) (sNil)
abbrev w2__law_parts : S := sSeq (sExpr (mApp (mVar 1) (mVar 2))) q1__law_parts
abbrev q2__law_parts : S := sRet (mVar 1)
abbrev q3__law_parts : S := sSeq (sIf (tOr (tVal (mUn (p1 (oIsi .tuple)) (mVar 0))) (tVal (mUn (p1 (oIsi .list)) (mVar 0)))) (sFor (iAny (mVar 0)) (gName 2) w2__law_parts) (sNil)) q2__law_parts
def b__law_parts : S := sSeq (sAsg (mLst (mCons (mVar 0) (mNil))) (gName 1)) q3__law_parts
def f__law_parts : F := fn 1 4 b__law_parts
abbrev q1__law_judged : S := sRet (mCall (f__law_same 8) (mCons (mVar 1) (mCons (mVar 2) (mNil))))
abbrev q2__law_judged : S := sSeq (sIf (tNot (tVal (mCall (f__law_same 8) (mCons (mCall f_is_text (mCons (mVar 1) (mNil))) (mCons (mCall f__law_is_text (mCons (mVar 1) (mNil))) (mNil)))))) (sRet (mC (.bl false))) (sNil)) q1__law_judged
abbrev q3__law_judged : S := sSeq (sIf (tNot (tVal (mCall (f__law_same 8) (mCons (mCall f_is_name (mCons (mVar 0) (mCons (mVar 1) (mNil)))) (mCons (mCall f__law_is_name (mCons (mVar 0) (mCons (mVar 1) (mNil)))) (mNil)))))) (sRet (mC (.bl false))) (sNil)) q2__law_judged
abbrev q4__law_judged : S := sSeq (sIf (tNot (tVal (mCall (f__law_same 8) (mCons (mCall f_has_shape (mCons (mVar 0) (mCons (mVar 1) (mNil)))) (mCons (mCall f__law_shape (mCons (mVar 0) (mCons (mVar 1) (mNil)))) (mNil)))))) (sRet (mC (.bl false))) (sNil)) q3__law_judged
def b__law_judged : S := sSeq (sAsg (mCall (f__law_copy 8) (mCons (mVar 1) (mNil))) (gName 2)) q4__law_judged
def f__law_judged : F := fn 2 3 b__law_judged
abbrev w1__law_read : S := sIf (tAnd (tVal (mOp (p2 oGe) (mVar 8) (mC (.int 1)))) (tNot (tVal (mCall (f__law_same 8) (mCons (mCall f_has_seen (mCons (mVar 3) (mCons (mTup (mCons (mVar 8) (mCons (mVar 6) (mNil)))) (mNil)))) (mCons (mOp (p2 oLe) (mVar 8) (mVar 7)) (mNil))))))) (sRet (mC (.bl false))) (sNil)
abbrev q1__law_read : S := sFor (iAny (mLst (mCons (mC (.int 1)) (mCons (mOp oSub (mVar 7) (mC (.int 1))) (mCons (mVar 7) (mCons (mOp oAdd (mVar 7) (mC (.int 1))) (mCons (mVar 2) (mNil)))))))) (gName 8) w1__law_read
abbrev w2__law_read : S := sSeq (sAsg (mOp (p2 oIdx) (mOp (p2 oIdx) (mVar 1) (mC (.int 2))) (mVar 6)) (gName 7)) q1__law_read
abbrev q2__law_read : S := sRet (mC (.bl true))
abbrev q3__law_read : S := sSeq (sFor (iRange1 (mUn (p1 oLen) (mOp (p2 oIdx) (mVar 1) (mC (.int 2))))) (gName 6) w2__law_read) q2__law_read
abbrev q4__law_read : S := sSeq (sIf (tOr (tNot (tVal (mCall (f__law_same 8) (mCons (mCall f_name_of (mCons (mVar 3) (mNil))) (mCons (mTup (mCons (mVar 2) (mCons (mOp (p2 oIdx) (mVar 1) (mC (.int 1))) (mNil)))) (mNil)))))) (tNot (tVal (mCall (f__law_same 8) (mCons (mCall f_message_of (mCons (mVar 3) (mNil))) (mCons (mVar 5) (mNil))))))) (sRet (mC (.bl false))) (sNil)) q3__law_read
abbrev q5__law_read : S := sSeq (sIf (tOr (tVal (mOp (p2 oEq) (mOp (p2 oIdx) (mVar 4) (mC (.int 0))) (mC (.str ['e', 'd', 'i', 't'])))) (tVal (mOp (p2 oEq) (mOp (p2 oIdx) (mVar 4) (mC (.int 0))) (mC (.str ['d', 'r', 'o', 'p']))))) (sAsg (mOp (p2 oIdx) (mVar 4) (mC (.int 2))) (gName 5)) (sNil)) q4__law_read
abbrev q6__law_read : S := sSeq (sIf (tVal (mOp (p2 oEq) (mOp (p2 oIdx) (mVar 4) (mC (.int 0))) (mC (.str ['s', 'a', 'y'])))) (sAsg (mTup (mCons (mVar 2) (mCons (mOp (p2 oIdx) (mVar 1) (mC (.int 1))) (mNil)))) (gName 5)) (sNil)) q5__law_read
abbrev q7__law_read : S := sSeq (sAsg (mC .non) (gName 5)) q6__law_read
abbrev q8__law_read : S := sSeq (sAsg (mOp (p2 oIdx) (mVar 1) (mC (.int 3))) (gName 4)) q7__law_read
abbrev q9__law_read : S := sSeq (sAsg (mTup (mCons (mVar 2) (mCons (mOp (p2 oIdx) (mVar 1) (mC (.int 1))) (mCons (mOp (p2 oIdx) (mVar 1) (mC (.int 2))) (mCons (mOp (p2 oIdx) (mVar 1) (mC (.int 3))) (mNil)))))) (gName 3)) q8__law_read
def b__law_read : S := sSeq (sAsg (mOp oAdd (mOp oAdd (mUn (p1 oMaxL) (mOp (p2 oIdx) (mVar 1) (mC (.int 2)))) (mC (.int 1))) (mOp (p2 oIdx) (mVar 1) (mC (.int 0)))) (gName 2)) q9__law_read
def f__law_read : F := fn 2 9 b__law_read
abbrev w1_law : S := sIf (tNot (tVal (mCall f__law_judged (mCons (mVar 1) (mCons (mVar 6) (mNil)))))) (sRet (mC (.bl false))) (sNil)
abbrev q1_law : S := sRet (mAnd (mCall f__law_judged (mCons (mVar 1) (mCons (mVar 2) (mNil)))) (mCall f__law_read (mCons (mVar 1) (mCons (mVar 2) (mNil)))))
abbrev q2_law : S := sSeq (sFor (iAny (mOp oAdd (mCall f__law_parts (mCons (mVar 4) (mNil))) (mLst (mCons (mCall f__law_odd (mCons (mVar 3) (mCons (mUn (p1 oLen) (mOp (p2 oIdx) (mVar 1) (mC (.int 0)))) (mNil)))) (mCons (mOp oAdd (mCall f__law_text (mCons (mVar 3) (mNil))) (mC (.str ['\t']))) (mNil)))))) (gName 6) w1_law) q1_law
abbrev q3_law : S := sSeq (sIf (tAnd (tVal (mOp (p2 oGt) (mVar 5) (mC (.int 3)))) (tAnd (tVal (mUn (p1 (oIsi .tuple)) (mVar 4))) (tVal (mOp (p2 oEq) (mUn (p1 oLen) (mVar 4)) (mC (.int 4)))))) (sIf (tAnd (tVal (mUn (p1 (oIsi .tuple)) (mOp (p2 oIdx) (mVar 4) (mC (.int 2))))) (tAnd (tVal (mOp (p2 oGt) (mUn (p1 oLen) (mOp (p2 oIdx) (mVar 4) (mC (.int 2)))) (mC (.int 0)))) (tAnd (tVal (mUn (p1 (oIsi .tuple)) (mOp (p2 oIdx) (mVar 4) (mC (.int 3))))) (tVal (mOp (p2 oGt) (mUn (p1 oLen) (mOp (p2 oIdx) (mVar 4) (mC (.int 3)))) (mC (.int 0))))))) (sAsg (mCall f__law_put (mCons (mVar 4) (mCons (mC (.int 3)) (mCons (mCall f__law_spoil_deed (mCons (mVar 3) (mCons (mVar 1) (mCons (mOp (p2 oIdx) (mVar 4) (mC (.int 3))) (mNil))))) (mNil))))) (gName 4)) (sNil)) (sNil)) q2_law
abbrev q4_law : S := sSeq (sIf (tVal (mOp (p2 oGt) (mVar 5) (mC (.int 0)))) (sAsg (mCall f__law_spoil (mCons (mVar 3) (mCons (mVar 1) (mCons (mVar 2) (mNil))))) (gName 4)) (sNil)) q3_law
abbrev q5_law : S := sSeq (sAsg (mCall f__law_take (mCons (mVar 3) (mCons (mC (.int 5)) (mNil)))) (gName 5)) q4_law
abbrev q6_law : S := sSeq (sAsg (mVar 2) (gName 4)) q5_law
abbrev q7_law : S := sSeq (sAsg (mCall f__law_source (mCons (mVar 0) (mCons (mC (.int 2)) (mNil)))) (gName 3)) q6_law
abbrev q8_law : S := sSeq (sAsg (mCall f__law_entry (mCons (mCall f__law_source (mCons (mVar 0) (mCons (mC (.int 1)) (mNil)))) (mCons (mVar 1) (mNil)))) (gName 2)) q7_law
def b_law : S := sSeq (sAsg (mCall f__law_house (mCons (mCall f__law_source (mCons (mVar 0) (mCons (mC (.int 0)) (mNil)))) (mNil))) (gName 1)) q8_law
def f_law : F := fn 1 7 b_law
end
end K02
end

section
set_option Elab.async false
set_option linter.all false
set_option maxRecDepth 100000
set_option autoImplicit false
/-! The derivations; printed by gen.py. -/
namespace K02
open Py PySem L2
def top (i : Nat) : Stmt := PySem.Challenge.pw_hearsay_k02_shapes.main.body.getD i (.Pass ⟨0, 0, 0, 0⟩)
abbrev s_room_names : Stmt := top 1
abbrev N_room_names : List Str := ["house", "pair"]
abbrev P_room_names : List Str := ["house"]
abbrev s_is_integer : Stmt := top 5
abbrev N_is_integer : List Str := ["value"]
abbrev P_is_integer : List Str := ["value"]
abbrev s_is_device : Stmt := top 6
abbrev N_is_device : List Str := ["house", "value"]
abbrev P_is_device : List Str := ["house", "value"]
abbrev s_is_text : Stmt := top 7
abbrev N_is_text : List Str := ["value", "char"]
abbrev P_is_text : List Str := ["value"]
abbrev s_is_name : Stmt := top 8
abbrev N_is_name : List Str := ["house", "value"]
abbrev P_is_name : List Str := ["house", "value"]
abbrev s_is_about : Stmt := top 9
abbrev N_is_about : List Str := ["house", "value"]
abbrev P_is_about : List Str := ["house", "value"]
abbrev s_is_times : Stmt := top 10
abbrev N_is_times : List Str := ["house", "value", "number"]
abbrev P_is_times : List Str := ["house", "value"]
abbrev s_is_deed : Stmt := top 11
abbrev N_is_deed : List Str := ["house", "deed", "kind", "room"]
abbrev P_is_deed : List Str := ["house", "deed"]
abbrev s_has_shape : Stmt := top 12
abbrev N_has_shape : List Str := ["house", "value"]
abbrev P_has_shape : List Str := ["house", "value"]
abbrev s_name_of : Stmt := top 13
abbrev N_name_of : List Str := ["entry"]
abbrev P_name_of : List Str := ["entry"]
abbrev s_message_of : Stmt := top 14
abbrev N_message_of : List Str := ["entry", "deed"]
abbrev P_message_of : List Str := ["entry"]
abbrev s_has_seen : Stmt := top 15
abbrev N_has_seen : List Str := ["entry", "name"]
abbrev P_has_seen : List Str := ["entry", "name"]
abbrev s__law_seed : Stmt := top 17
abbrev N__law_seed : List Str := ["script", "seed", "k"]
abbrev P__law_seed : List Str := ["script"]
abbrev s__law_source : Stmt := top 18
abbrev N__law_source : List Str := ["script", "place", "cell", "seed", "mixed"]
abbrev P__law_source : List Str := ["script", "place"]
abbrev s__law_take : Stmt := top 19
abbrev N__law_take : List Str := ["source", "many", "digit"]
abbrev P__law_take : List Str := ["source", "many"]
abbrev s__law_word : Stmt := top 20
abbrev N__law_word : List Str := ["source", "others", "letters", "base", "place", "word", "k"]
abbrev P__law_word : List Str := ["source", "others"]
abbrev s__law_house : Stmt := top 21
abbrev N__law_house : List Str := ["source", "words", "k", "owners", "rooms", "taken", "word", "keeper"]
abbrev P__law_house : List Str := ["source"]
abbrev s__law_same : Stmt := top 22
abbrev N__law_same : List Str := ["told", "due", "k"]
abbrev P__law_same : List Str := ["told", "due"]
abbrev s__law_copy : Stmt := top 23
abbrev N__law_copy : List Str := ["value", "part"]
abbrev P__law_copy : List Str := ["value"]
abbrev s__law_signs : Stmt := top 24
abbrev N__law_signs : List Str := ["signs"]
abbrev P__law_signs : List Str := []
abbrev s__law_text : Stmt := top 25
abbrev N__law_text : List Str := ["source", "signs", "sizes", "text", "k"]
abbrev P__law_text : List Str := ["source"]
abbrev s__law_is_int : Stmt := top 26
abbrev N__law_is_int : List Str := ["value"]
abbrev P__law_is_int : List Str := ["value"]
abbrev s__law_is_text : Stmt := top 27
abbrev N__law_is_text : List Str := ["value", "signs", "sign"]
abbrev P__law_is_text : List Str := ["value"]
abbrev s__law_is_name : Stmt := top 28
abbrev N__law_is_name : List Str := ["house", "value"]
abbrev P__law_is_name : List Str := ["house", "value"]
abbrev s__law_is_deed : Stmt := top 29
abbrev N__law_is_deed : List Str := ["house", "deed", "pair"]
abbrev P__law_is_deed : List Str := ["house", "deed"]
abbrev s__law_shape : Stmt := top 30
abbrev N__law_shape : List Str := ["house", "value", "number"]
abbrev P__law_shape : List Str := ["house", "value"]
abbrev s__law_put : Stmt := top 31
abbrev N__law_put : List Str := ["row", "place", "value"]
abbrev P__law_put : List Str := ["row", "place", "value"]
abbrev s__law_odd : Stmt := top 32
abbrev N__law_odd : List Str := ["source", "count", "odd"]
abbrev P__law_odd : List Str := ["source", "count"]
abbrev s__law_name : Stmt := top 33
abbrev N__law_name : List Str := ["source", "count"]
abbrev P__law_name : List Str := ["source", "count"]
abbrev s__law_deed : Stmt := top 34
abbrev N__law_deed : List Str := ["source", "house", "count", "room", "about", "kind"]
abbrev P__law_deed : List Str := ["source", "house"]
abbrev s__law_entry : Stmt := top 35
abbrev N__law_entry : List Str := ["source", "house", "count", "seen", "d", "name"]
abbrev P__law_entry : List Str := ["source", "house"]
abbrev s__law_spoil_deed : Stmt := top 36
abbrev N__law_spoil_deed : List Str := ["source", "house", "deed", "count", "at", "turn", "odd", "words", "part", "place"]
abbrev P__law_spoil_deed : List Str := ["source", "house", "deed"]
abbrev s__law_spoil : Stmt := top 37
abbrev N__law_spoil : List Str := ["source", "house", "entry", "count", "seen", "turn", "odd"]
abbrev P__law_spoil : List Str := ["source", "house", "entry"]
abbrev s__law_parts : Stmt := top 38
abbrev N__law_parts : List Str := ["value", "parts", "part", "inner"]
abbrev P__law_parts : List Str := ["value"]
abbrev s__law_judged : Stmt := top 39
abbrev N__law_judged : List Str := ["house", "value", "kept"]
abbrev P__law_judged : List Str := ["house", "value"]
abbrev s__law_read : Stmt := top 40
abbrev N__law_read : List Str := ["house", "entry", "time", "given", "deed", "message", "d", "number", "t"]
abbrev P__law_read : List Str := ["house", "entry"]
abbrev s_law : Stmt := top 41
abbrev N_law : List Str := ["script", "house", "entry", "source", "value", "turns", "part"]
abbrev P_law : List Str := ["script"]
structure Txt (mg : Str → Option Value) : Prop where
  n_bool : mg "bool" = none
  n_int : mg "int" = none
  n_isinstance : mg "isinstance" = none
  n_len : mg "len" = none
  n_list : mg "list" = none
  n_max : mg "max" = none
  n_min : mg "min" = none
  n_ord : mg "ord" = none
  n_range : mg "range" = none
  n_str : mg "str" = none
  n_tuple : mg "tuple" = none
  c_MOST_CHARS : ∃ t, mg "MOST_CHARS" = some (.int 60 t)
  c_PERCENT : ∃ t, mg "PERCENT" = some (.int 37 t)
section
variable {P : Program} {w : World} {K : PySem.W.Frag} {mg : Str → Option Value} {base : Heap}
abbrev Fn (K : PySem.W.Frag) (x : Str) (st : Stmt) (f : Addr) (fd : FuncData) : Prop := FunD K x x (defArgs st) (defBody st) (defScope st) [] [] f fd
theorem sc_room_names : FnScope N_room_names P_room_names (defScope s_room_names) := ⟨rfl, rfl, rfl, by decide +kernel, rfl, by decide +kernel, by decide +kernel⟩
theorem ok_room_names {a : Addr} {fd : FuncData} (T : Txt mg) (Fd : Fn K "room_names" s_room_names a fd) (hm : mg "room_names" = some (.ref a)) : Cal P w K mg base CX0 1 "room_names" 1 f_room_names := by
  refine ⟨a, fd, P_room_names, Fd.ok (CX := CX0) (k := 0) sc_room_names (sp_len rfl) fun cdv A outer s H vs Q E hr h => ⟨_, PSs.nox ?_, body_read (b := b_room_names) rfl h⟩, hm, Fd.kp, Fd.bindsN (fun _ _ _ _ _ _ us hl => match us, hl with | [_], _ => rfl)⟩
  exact ss_one (s_ret (e_lc [("pair", 1)] rfl sc_room_names.nd (i_any (e_idx (e_var 0) (e_int))) (blkOk_by (own := [("pair", 1)]) (N := N_room_names) (sc := defScope s_room_names) (by decide +kernel)) (fun _ _ _ _ _ => g_name (own := [1]) 1 sc_room_names.nd) (fun _ _ _ _ _ => cs_nil) (fun _ _ _ _ _ => e_idx (e_var 1) (e_int))))
theorem sc_is_integer : FnScope N_is_integer P_is_integer (defScope s_is_integer) := ⟨rfl, rfl, rfl, by decide +kernel, rfl, by decide +kernel, by decide +kernel⟩
theorem ok_is_integer {a : Addr} {fd : FuncData} (T : Txt mg) (Fd : Fn K "is_integer" s_is_integer a fd) (hm : mg "is_integer" = some (.ref a)) : Cal P w K mg base CX0 1 "is_integer" 1 f_is_integer := by
  refine ⟨a, fd, P_is_integer, Fd.ok (CX := CX0) (k := 0) sc_is_integer (sp_len rfl) fun cdv A outer s H vs Q E hr h => ⟨_, PSs.nox ?_, body_read (b := b_is_integer) rfl h⟩, hm, Fd.kp, Fd.bindsN (fun _ _ _ _ _ _ us hl => match us, hl with | [_], _ => rfl)⟩
  exact ss_one (s_ret (e_and (e_isi .int T.n_isinstance T.n_int (by decide +kernel) (e_var 0)) (e_one (e_not (e_isi .bool T.n_isinstance T.n_bool (by decide +kernel) (e_var 0))))))
theorem sc_is_device : FnScope N_is_device P_is_device (defScope s_is_device) := ⟨rfl, rfl, rfl, by decide +kernel, rfl, by decide +kernel, by decide +kernel⟩
theorem ok_is_device {a : Addr} {fd : FuncData} (T : Txt mg) (Fd : Fn K "is_device" s_is_device a fd) (hm : mg "is_device" = some (.ref a)) (C_is_integer : Cal P w K mg base CX0 1 "is_integer" 1 f_is_integer) : Cal P w K mg base CX0 2 "is_device" 2 f_is_device := by
  refine ⟨a, fd, P_is_device, Fd.ok (CX := CX0) (k := 1) sc_is_device (sp_len rfl) fun cdv A outer s H vs Q E hr h => ⟨_, PSs.nox ?_, body_read (b := b_is_device) rfl h⟩, hm, Fd.kp, Fd.bindsN (fun _ _ _ _ _ _ us hl => match us, hl with | [_, _], _ => rfl)⟩
  exact ss_one (s_ret (e_and (e_call C_is_integer hr (by decide) pass_0 (a_cons (e_var 1) (a_nil)) (hn := as_cons (as_nil rfl))) (e_one (e_chain o_le o_lt (e_int) (e_var 1) (e_b1 (c_len) T.n_len (by decide +kernel) (e_idx (e_var 0) (e_int)))))))
theorem sc_is_text : FnScope N_is_text P_is_text (defScope s_is_text) := ⟨rfl, rfl, rfl, by decide +kernel, rfl, by decide +kernel, by decide +kernel⟩
theorem ok_is_text {a : Addr} {fd : FuncData} (T : Txt mg) (Fd : Fn K "is_text" s_is_text a fd) (hm : mg "is_text" = some (.ref a)) : Cal P w K mg base CX0 1 "is_text" 1 f_is_text := by
  refine ⟨a, fd, P_is_text, Fd.ok (CX := CX0) (k := 0) sc_is_text (sp_len rfl) fun cdv A outer s H vs Q E hr h => ⟨_, PSs.nox ?_, body_read (b := b_is_text) rfl h⟩, hm, Fd.kp, Fd.bindsN (fun _ _ _ _ _ _ us hl => match us, hl with | [_], _ => rfl)⟩
  exact ss_cons (s_if (t_w (t_or (t_not (t_val (e_isi .str T.n_isinstance T.n_str (by decide +kernel) (e_var 0)))) (t_or1 (t_cmp o_gt (e_b1 (c_len) T.n_len (by decide +kernel) (e_var 0)) (e_gint' T.c_MOST_CHARS))))) (ss_one (s_ret (e_bl))) (ss_nil))
      (ss_cons (s_for (own := [1]) PassesOwn.never rfl (i_any (e_var 0)) (g_name (own := [1]) 1 sc_is_text.nd) (ss_one (s_if (t_w (t_or (t_not (t_chain o_le o_le (e_int) (e_b1 (c_ord) T.n_ord (by decide +kernel) (e_var 1)) (e_int))) (t_or1 (t_cmp (o_eq hr) (e_b1 (c_ord) T.n_ord (by decide +kernel) (e_var 1)) (e_gint' T.c_PERCENT))))) (ss_one (s_ret (e_bl))) (ss_nil))))
      (ss_one (s_ret (e_bl))))
theorem sc_is_name : FnScope N_is_name P_is_name (defScope s_is_name) := ⟨rfl, rfl, rfl, by decide +kernel, rfl, by decide +kernel, by decide +kernel⟩
theorem ok_is_name {a : Addr} {fd : FuncData} (T : Txt mg) (Fd : Fn K "is_name" s_is_name a fd) (hm : mg "is_name" = some (.ref a)) (C_is_integer : Cal P w K mg base CX0 1 "is_integer" 1 f_is_integer) (C_is_device : Cal P w K mg base CX0 2 "is_device" 2 f_is_device) : Cal P w K mg base CX0 3 "is_name" 2 f_is_name := by
  refine ⟨a, fd, P_is_name, Fd.ok (CX := CX0) (k := 2) sc_is_name (sp_len rfl) fun cdv A outer s H vs Q E hr h => ⟨_, PSs.nox ?_, body_read (b := b_is_name) rfl h⟩, hm, Fd.kp, Fd.bindsN (fun _ _ _ _ _ _ us hl => match us, hl with | [_, _], _ => rfl)⟩
  exact ss_cons (s_if (t_w (t_or (t_not (t_val (e_isi .tuple T.n_isinstance T.n_tuple (by decide +kernel) (e_var 1)))) (t_or1 (t_cmp (o_ne hr) (e_b1 (c_len) T.n_len (by decide +kernel) (e_var 1)) (e_int))))) (ss_one (s_ret (e_bl))) (ss_nil))
      (ss_one (s_ret (e_and (e_call C_is_integer hr (by decide) pass_0 (a_cons (e_idx (e_var 1) (e_int)) (a_nil)) (hn := as_cons (as_nil rfl))) (e_and (e_cmp o_ge (e_idx (e_var 1) (e_int)) (e_int)) (e_one (e_call C_is_device hr (by decide) pass_0 (a_cons (e_var 0) (a_cons (e_idx (e_var 1) (e_int)) (a_nil))) (hn := as_cons (as_cons (as_nil rfl)))))))))
theorem sc_is_about : FnScope N_is_about P_is_about (defScope s_is_about) := ⟨rfl, rfl, rfl, by decide +kernel, rfl, by decide +kernel, by decide +kernel⟩
theorem ok_is_about {a : Addr} {fd : FuncData} (T : Txt mg) (Fd : Fn K "is_about" s_is_about a fd) (hm : mg "is_about" = some (.ref a)) (C_is_name : Cal P w K mg base CX0 3 "is_name" 2 f_is_name) : Cal P w K mg base CX0 4 "is_about" 2 f_is_about := by
  refine ⟨a, fd, P_is_about, Fd.ok (CX := CX0) (k := 3) sc_is_about (sp_len rfl) fun cdv A outer s H vs Q E hr h => ⟨_, PSs.nox ?_, body_read (b := b_is_about) rfl h⟩, hm, Fd.kp, Fd.bindsN (fun _ _ _ _ _ _ us hl => match us, hl with | [_, _], _ => rfl)⟩
  exact ss_one (s_ret (e_or (e_cmp o_isN (e_var 1) (e_non)) (e_one (e_call C_is_name hr (by decide) pass_0 (a_cons (e_var 0) (a_cons (e_var 1) (a_nil))) (hn := as_cons (as_cons (as_nil rfl)))))))
theorem sc_is_times : FnScope N_is_times P_is_times (defScope s_is_times) := ⟨rfl, rfl, rfl, by decide +kernel, rfl, by decide +kernel, by decide +kernel⟩
theorem ok_is_times {a : Addr} {fd : FuncData} (T : Txt mg) (Fd : Fn K "is_times" s_is_times a fd) (hm : mg "is_times" = some (.ref a)) (C_is_integer : Cal P w K mg base CX0 1 "is_integer" 1 f_is_integer) : Cal P w K mg base CX0 2 "is_times" 2 f_is_times := by
  refine ⟨a, fd, P_is_times, Fd.ok (CX := CX0) (k := 1) sc_is_times (sp_len rfl) fun cdv A outer s H vs Q E hr h => ⟨_, PSs.nox ?_, body_read (b := b_is_times) rfl h⟩, hm, Fd.kp, Fd.bindsN (fun _ _ _ _ _ _ us hl => match us, hl with | [_, _], _ => rfl)⟩
  exact ss_cons (s_if (t_w (t_or (t_not (t_val (e_isi .tuple T.n_isinstance T.n_tuple (by decide +kernel) (e_var 1)))) (t_or1 (t_cmp (o_ne hr) (e_b1 (c_len) T.n_len (by decide +kernel) (e_var 1)) (e_b1 (c_len) T.n_len (by decide +kernel) (e_idx (e_var 0) (e_int))))))) (ss_one (s_ret (e_bl))) (ss_nil))
      (ss_cons (s_for (own := [2]) PassesOwn.never rfl (i_any (e_var 1)) (g_name (own := [2]) 2 sc_is_times.nd) (ss_one (s_if (t_w (t_or (t_not (t_val (e_call C_is_integer hr (by decide) pass_0 (a_cons (e_var 2) (a_nil)) (hn := as_cons (as_nil rfl))))) (t_or1 (t_cmp o_lt (e_var 2) (e_int))))) (ss_one (s_ret (e_bl))) (ss_nil))))
      (ss_one (s_ret (e_bl))))
theorem sc_is_deed : FnScope N_is_deed P_is_deed (defScope s_is_deed) := ⟨rfl, rfl, rfl, by decide +kernel, rfl, by decide +kernel, by decide +kernel⟩
theorem ok_is_deed {a : Addr} {fd : FuncData} (T : Txt mg) (Fd : Fn K "is_deed" s_is_deed a fd) (hm : mg "is_deed" = some (.ref a)) (C_room_names : Cal P w K mg base CX0 1 "room_names" 1 f_room_names) (C_is_text : Cal P w K mg base CX0 1 "is_text" 1 f_is_text) (C_is_name : Cal P w K mg base CX0 3 "is_name" 2 f_is_name) (C_is_about : Cal P w K mg base CX0 4 "is_about" 2 f_is_about) : Cal P w K mg base CX0 5 "is_deed" 2 f_is_deed := by
  refine ⟨a, fd, P_is_deed, Fd.ok (CX := CX0) (k := 4) sc_is_deed (sp_len rfl) fun cdv A outer s H vs Q E hr h => ⟨_, PSs.nox ?_, body_read (b := b_is_deed) rfl h⟩, hm, Fd.kp, Fd.bindsN (fun _ _ _ _ _ _ us hl => match us, hl with | [_, _], _ => rfl)⟩
  exact ss_cons (s_if (t_w (t_or (t_not (t_val (e_isi .tuple T.n_isinstance T.n_tuple (by decide +kernel) (e_var 1)))) (t_or1 (t_cmp o_lt (e_b1 (c_len) T.n_len (by decide +kernel) (e_var 1)) (e_int))))) (ss_one (s_ret (e_bl))) (ss_nil))
      (ss_cons (s_set 2 sc_is_deed.nd (e_idx (e_var 1) (e_int)))
      (ss_cons (s_set 3 sc_is_deed.nd (e_idx (e_var 1) (e_int)))
      (ss_cons (s_if (t_w (t_or (t_not (t_val (e_isi .str T.n_isinstance T.n_str (by decide +kernel) (e_var 2)))) (t_or (t_not (t_val (e_isi .str T.n_isinstance T.n_str (by decide +kernel) (e_var 3)))) (t_or1 (t_cmp (o_notIn hr) (e_var 3) (e_call C_room_names hr (by decide) pass_0 (a_cons (e_var 0) (a_nil)) (hn := as_cons (as_nil rfl)))))))) (ss_one (s_ret (e_bl))) (ss_nil))
      (ss_cons (s_if (t_cmp (o_eq hr) (e_var 2) (e_str (by decide +kernel))) (ss_one (s_ret (e_and (e_cmp (o_eq hr) (e_b1 (c_len) T.n_len (by decide +kernel) (e_var 1)) (e_int)) (e_and (e_call C_is_about hr (by decide) pass_0 (a_cons (e_var 0) (a_cons (e_idx (e_var 1) (e_int)) (a_nil))) (hn := as_cons (as_cons (as_nil rfl)))) (e_one (e_call C_is_text hr (by decide) pass_0 (a_cons (e_idx (e_var 1) (e_int)) (a_nil)) (hn := as_cons (as_nil rfl)))))))) (ss_nil))
      (ss_cons (s_if (t_cmp (o_eq hr) (e_var 2) (e_str (by decide +kernel))) (ss_cons (s_if (t_w (t_or (t_cmp (o_ne hr) (e_b1 (c_len) T.n_len (by decide +kernel) (e_var 1)) (e_int)) (t_or1 (t_not (t_val (e_call C_is_name hr (by decide) pass_0 (a_cons (e_var 0) (a_cons (e_idx (e_var 1) (e_int)) (a_nil))) (hn := as_cons (as_cons (as_nil rfl))))))))) (ss_one (s_ret (e_bl))) (ss_nil))
      (ss_one (s_ret (e_and (e_call C_is_about hr (by decide) pass_0 (a_cons (e_var 0) (a_cons (e_idx (e_var 1) (e_int)) (a_nil))) (hn := as_cons (as_cons (as_nil rfl)))) (e_one (e_call C_is_text hr (by decide) pass_0 (a_cons (e_idx (e_var 1) (e_int)) (a_nil)) (hn := as_cons (as_nil rfl)))))))) (ss_nil))
      (ss_cons (s_if (t_cmp (o_eq hr) (e_var 2) (e_str (by decide +kernel))) (ss_one (s_ret (e_and (e_cmp (o_eq hr) (e_b1 (c_len) T.n_len (by decide +kernel) (e_var 1)) (e_int)) (e_one (e_call C_is_name hr (by decide) pass_0 (a_cons (e_var 0) (a_cons (e_idx (e_var 1) (e_int)) (a_nil))) (hn := as_cons (as_cons (as_nil rfl)))))))) (ss_nil))
      (ss_one (s_ret (e_and (e_cmp (o_in hr) (e_var 2) (e_tup (a_cons (e_str (by decide +kernel)) (a_cons (e_str (by decide +kernel)) (a_cons (e_str (by decide +kernel)) (a_nil)))))) (e_one (e_cmp (o_eq hr) (e_b1 (c_len) T.n_len (by decide +kernel) (e_var 1)) (e_int))))))))))))
theorem sc_has_shape : FnScope N_has_shape P_has_shape (defScope s_has_shape) := ⟨rfl, rfl, rfl, by decide +kernel, rfl, by decide +kernel, by decide +kernel⟩
theorem ok_has_shape {a : Addr} {fd : FuncData} (T : Txt mg) (Fd : Fn K "has_shape" s_has_shape a fd) (hm : mg "has_shape" = some (.ref a)) (C_is_name : Cal P w K mg base CX0 3 "is_name" 2 f_is_name) (C_is_times : Cal P w K mg base CX0 2 "is_times" 2 f_is_times) (C_is_deed : Cal P w K mg base CX0 5 "is_deed" 2 f_is_deed) : Cal P w K mg base CX0 6 "has_shape" 2 f_has_shape := by
  refine ⟨a, fd, P_has_shape, Fd.ok (CX := CX0) (k := 5) sc_has_shape (sp_len rfl) fun cdv A outer s H vs Q E hr h => ⟨_, PSs.nox ?_, body_read (b := b_has_shape) rfl h⟩, hm, Fd.kp, Fd.bindsN (fun _ _ _ _ _ _ us hl => match us, hl with | [_, _], _ => rfl)⟩
  exact ss_cons (s_if (t_w (t_or (t_not (t_val (e_isi .tuple T.n_isinstance T.n_tuple (by decide +kernel) (e_var 1)))) (t_or1 (t_cmp (o_ne hr) (e_b1 (c_len) T.n_len (by decide +kernel) (e_var 1)) (e_int))))) (ss_one (s_ret (e_bl))) (ss_nil))
      (ss_cons (s_if (t_w (t_or (t_not (t_val (e_call C_is_name hr (by decide) pass_0 (a_cons (e_var 0) (a_cons (e_sl (e_var 1) oo_none (oo_some (e_int))) (a_nil))) (hn := as_cons (as_cons (as_nil rfl)))))) (t_or1 (t_not (t_val (e_call C_is_times hr (by decide) pass_0 (a_cons (e_var 0) (a_cons (e_idx (e_var 1) (e_int)) (a_nil))) (hn := as_cons (as_cons (as_nil rfl))))))))) (ss_one (s_ret (e_bl))) (ss_nil))
      (ss_one (s_ret (e_call C_is_deed hr (by decide) pass_0 (a_cons (e_var 0) (a_cons (e_idx (e_var 1) (e_int)) (a_nil))) (hn := as_cons (as_cons (as_nil rfl)))))))
theorem sc_name_of : FnScope N_name_of P_name_of (defScope s_name_of) := ⟨rfl, rfl, rfl, by decide +kernel, rfl, by decide +kernel, by decide +kernel⟩
theorem ok_name_of {a : Addr} {fd : FuncData} (T : Txt mg) (Fd : Fn K "name_of" s_name_of a fd) (hm : mg "name_of" = some (.ref a)) : Cal P w K mg base CX0 1 "name_of" 1 f_name_of := by
  refine ⟨a, fd, P_name_of, Fd.ok (CX := CX0) (k := 0) sc_name_of (sp_len rfl) fun cdv A outer s H vs Q E hr h => ⟨_, PSs.nox ?_, body_read (b := b_name_of) rfl h⟩, hm, Fd.kp, Fd.bindsN (fun _ _ _ _ _ _ us hl => match us, hl with | [_], _ => rfl)⟩
  exact ss_one (s_ret (e_tup (a_cons (e_idx (e_var 0) (e_int)) (a_cons (e_idx (e_var 0) (e_int)) (a_nil)))))
theorem sc_message_of : FnScope N_message_of P_message_of (defScope s_message_of) := ⟨rfl, rfl, rfl, by decide +kernel, rfl, by decide +kernel, by decide +kernel⟩
theorem ok_message_of {a : Addr} {fd : FuncData} (T : Txt mg) (Fd : Fn K "message_of" s_message_of a fd) (hm : mg "message_of" = some (.ref a)) (C_name_of : Cal P w K mg base CX0 1 "name_of" 1 f_name_of) : Cal P w K mg base CX0 2 "message_of" 1 f_message_of := by
  refine ⟨a, fd, P_message_of, Fd.ok (CX := CX0) (k := 1) sc_message_of (sp_len rfl) fun cdv A outer s H vs Q E hr h => ⟨_, PSs.nox ?_, body_read (b := b_message_of) rfl h⟩, hm, Fd.kp, Fd.bindsN (fun _ _ _ _ _ _ us hl => match us, hl with | [_], _ => rfl)⟩
  exact ss_cons (s_set 1 sc_message_of.nd (e_idx (e_var 0) (e_int)))
      (ss_cons (s_if (t_cmp (o_eq hr) (e_idx (e_var 1) (e_int)) (e_str (by decide +kernel))) (ss_one (s_ret (e_call C_name_of hr (by decide) pass_0 (a_cons (e_var 0) (a_nil)) (hn := as_cons (as_nil rfl))))) (ss_nil))
      (ss_cons (s_if (t_cmp (o_in hr) (e_idx (e_var 1) (e_int)) (e_tup (a_cons (e_str (by decide +kernel)) (a_cons (e_str (by decide +kernel)) (a_nil))))) (ss_one (s_ret (e_idx (e_var 1) (e_int)))) (ss_nil))
      (ss_one (s_ret (e_non)))))
theorem sc_has_seen : FnScope N_has_seen P_has_seen (defScope s_has_seen) := ⟨rfl, rfl, rfl, by decide +kernel, rfl, by decide +kernel, by decide +kernel⟩
theorem ok_has_seen {a : Addr} {fd : FuncData} (T : Txt mg) (Fd : Fn K "has_seen" s_has_seen a fd) (hm : mg "has_seen" = some (.ref a)) : Cal P w K mg base CX0 1 "has_seen" 2 f_has_seen := by
  refine ⟨a, fd, P_has_seen, Fd.ok (CX := CX0) (k := 0) sc_has_seen (sp_len rfl) fun cdv A outer s H vs Q E hr h => ⟨_, PSs.nox ?_, body_read (b := b_has_seen) rfl h⟩, hm, Fd.kp, Fd.bindsN (fun _ _ _ _ _ _ us hl => match us, hl with | [_, _], _ => rfl)⟩
  exact ss_one (s_ret (e_cmp o_le (e_idx (e_var 1) (e_int)) (e_idx (e_idx (e_var 0) (e_int)) (e_idx (e_var 1) (e_int)))))
theorem sc__law_seed : FnScope N__law_seed P__law_seed (defScope s__law_seed) := ⟨rfl, rfl, rfl, by decide +kernel, rfl, by decide +kernel, by decide +kernel⟩
theorem ok__law_seed {a : Addr} {fd : FuncData} (T : Txt mg) (Fd : Fn K "_law_seed" s__law_seed a fd) (hm : mg "_law_seed" = some (.ref a)) : Cal P w K mg base CX0 1 "_law_seed" 1 f__law_seed := by
  refine ⟨a, fd, P__law_seed, Fd.ok (CX := CX0) (k := 0) sc__law_seed (sp_len rfl) fun cdv A outer s H vs Q E hr h => ⟨_, PSs.nox ?_, body_read (b := b__law_seed) rfl h⟩, hm, Fd.kp, Fd.bindsN (fun _ _ _ _ _ _ us hl => match us, hl with | [_], _ => rfl)⟩
  exact ss_cons (s_set 1 sc__law_seed.nd (e_int))
      (ss_cons (s_for (own := [2]) PassesOwn.never rfl (i_range1 T.n_range (e_b2 (c_min rfl) T.n_min (by decide +kernel) (e_b1 (c_len) T.n_len (by decide +kernel) (e_var 0)) (e_int))) (g_name (own := [2]) 2 sc__law_seed.nd) (ss_one (s_set 1 sc__law_seed.nd (e_op o_mod (e_t1 (c_int) T.n_int (by decide +kernel) (e_op o_add (e_op o_add (e_op o_mul (e_var 1) (e_int)) (e_op o_mod (e_t1 (c_int) T.n_int (by decide +kernel) (e_idx (e_var 0) (e_var 2))) (e_int))) (e_var 2))) (e_int)))))
      (ss_one (s_ret (e_var 1))))
theorem sc__law_source : FnScope N__law_source P__law_source (defScope s__law_source) := ⟨rfl, rfl, rfl, by decide +kernel, rfl, by decide +kernel, by decide +kernel⟩
theorem ok__law_source {a : Addr} {fd : FuncData} (T : Txt mg) (Fd : Fn K "_law_source" s__law_source a fd) (hm : mg "_law_source" = some (.ref a)) (C__law_seed : Cal P w K mg base CX0 1 "_law_seed" 1 f__law_seed) : Cal P w K mg base CX0 2 "_law_source" 2 f__law_source := by
  refine ⟨a, fd, P__law_source, Fd.ok (CX := CX0) (k := 1) sc__law_source (sp_len rfl) fun cdv A outer s H vs Q E hr h => ⟨_, PSs.nox ?_, body_read (b := b__law_source) rfl h⟩, hm, Fd.kp, Fd.bindsN (fun _ _ _ _ _ _ us hl => match us, hl with | [_, _], _ => rfl)⟩
  exact ss_cons (s_set 2 sc__law_source.nd (e_int))
      (ss_cons (s_if (t_cmp o_lt (e_var 1) (e_b1 (c_len) T.n_len (by decide +kernel) (e_var 0))) (ss_one (s_set 2 sc__law_source.nd (e_op o_mod (e_t1 (c_int) T.n_int (by decide +kernel) (e_idx (e_var 0) (e_var 1))) (e_op o_pow (e_op o_pow (e_int) (e_int)) (e_int))))) (ss_nil))
      (ss_cons (s_set 3 sc__law_source.nd (e_call C__law_seed hr (by decide) pass_0 (a_cons (e_var 0) (a_nil)) (hn := as_cons (as_nil rfl))))
      (ss_cons (s_set 4 sc__law_source.nd (e_op o_mod (e_t1 (c_int) T.n_int (by decide +kernel) (e_op o_mul (e_op o_add (e_var 3) (e_op o_mul (e_var 1) (e_int))) (e_op o_add (e_op o_add (e_op o_fdiv (e_var 3) (e_int)) (e_op o_mul (e_var 1) (e_int))) (e_int)))) (e_int)))
      (ss_one (s_ret (e_lst (a_cons (e_var 2) (a_cons (e_var 4) (a_nil)))))))))
theorem sc__law_take : FnScope N__law_take P__law_take (defScope s__law_take) := ⟨rfl, rfl, rfl, by decide +kernel, rfl, by decide +kernel, by decide +kernel⟩
theorem ok__law_take {a : Addr} {fd : FuncData} (T : Txt mg) (Fd : Fn K "_law_take" s__law_take a fd) (hm : mg "_law_take" = some (.ref a)) : Cal P w K mg base CX0 1 "_law_take" 2 f__law_take := by
  refine ⟨a, fd, P__law_take, Fd.ok (CX := CX0) (k := 0) sc__law_take (sp_len rfl) fun cdv A outer s H vs Q E hr h => ⟨_, PSs.nox ?_, body_read (b := b__law_take) rfl h⟩, hm, Fd.kp, Fd.bindsN (fun _ _ _ _ _ _ us hl => match us, hl with | [_, _], _ => rfl)⟩
  exact ss_cons (s_if (t_cmp (o_eq hr) (e_idx (e_var 0) (e_int)) (e_int)) (ss_cons (s_setI (e_op o_mod (e_t1 (c_int) T.n_int (by decide +kernel) (e_op o_add (e_op o_mul (e_idx (e_var 0) (e_int)) (e_int)) (e_int))) (e_int)) (e_var 0) (e_int) (gsub_i (e_var 0) (e_int)))
      (ss_one (s_ret (e_op o_mod (e_t1 (c_int) T.n_int (by decide +kernel) (e_op o_fdiv (e_idx (e_var 0) (e_int)) (e_int))) (e_var 1))))) (ss_nil))
      (ss_cons (s_set 2 sc__law_take.nd (e_op o_mod (e_t1 (c_int) T.n_int (by decide +kernel) (e_idx (e_var 0) (e_int))) (e_var 1)))
      (ss_cons (s_setI (e_op o_fdiv (e_idx (e_var 0) (e_int)) (e_var 1)) (e_var 0) (e_int) (gsub_i (e_var 0) (e_int)))
      (ss_one (s_ret (e_var 2)))))
theorem sc__law_word : FnScope N__law_word P__law_word (defScope s__law_word) := ⟨rfl, rfl, rfl, by decide +kernel, rfl, by decide +kernel, by decide +kernel⟩
theorem ok__law_word {a : Addr} {fd : FuncData} (T : Txt mg) (Fd : Fn K "_law_word" s__law_word a fd) (hm : mg "_law_word" = some (.ref a)) (C__law_take : Cal P w K mg base CX0 1 "_law_take" 2 f__law_take) : Cal P w K mg base CX0 2 "_law_word" 2 f__law_word := by
  refine ⟨a, fd, P__law_word, Fd.ok (CX := CX0) (k := 1) sc__law_word (sp_len rfl) fun cdv A outer s H vs Q E hr h => ⟨_, PSs.nox ?_, body_read (b := b__law_word) rfl h⟩, hm, Fd.kp, Fd.bindsN (fun _ _ _ _ _ _ us hl => match us, hl with | [_, _], _ => rfl)⟩
  exact ss_cons (s_set 2 sc__law_word.nd (e_str (by decide +kernel)))
      (ss_cons (s_if (t_w (t_and (t_cmp o_gt (e_b1 (c_len) T.n_len (by decide +kernel) (e_var 1)) (e_int)) (t_and1 (t_cmp (o_eq hr) (e_call C__law_take hr (by decide) pass_0 (a_cons (e_var 0) (a_cons (e_int) (a_nil))) (hn := as_cons (as_cons (as_nil rfl)))) (e_int))))) (ss_cons (s_set 3 sc__law_word.nd (e_idx (e_var 1) (e_call C__law_take hr (by decide) pass_0 (a_cons (e_var 0) (a_cons (e_b1 (c_len) T.n_len (by decide +kernel) (e_var 1)) (a_nil))) (hn := as_cons (as_cons (as_nil rfl))))))
      (ss_cons (s_set 4 sc__law_word.nd (e_call C__law_take hr (by decide) pass_0 (a_cons (e_var 0) (a_cons (e_b1 (c_len) T.n_len (by decide +kernel) (e_var 3)) (a_nil))) (hn := as_cons (as_cons (as_nil rfl)))))
      (ss_one (s_ret (e_op o_add (e_op o_add (e_sl (e_var 3) oo_none (oo_some (e_var 4))) (e_idx (e_var 2) (e_call C__law_take hr (by decide) pass_0 (a_cons (e_var 0) (a_cons (e_int) (a_nil))) (hn := as_cons (as_cons (as_nil rfl)))))) (e_sl (e_var 3) (oo_some (e_op o_add (e_var 4) (e_int))) oo_none)))))) (ss_nil))
      (ss_cons (s_set 5 sc__law_word.nd (e_str (by decide +kernel)))
      (ss_cons (s_for (own := [6]) PassesOwn.never rfl (i_range1 T.n_range (e_op o_add (e_int) (e_call C__law_take hr (by decide) pass_0 (a_cons (e_var 0) (a_cons (e_int) (a_nil))) (hn := as_cons (as_cons (as_nil rfl)))))) (g_name (own := [6]) 6 sc__law_word.nd) (ss_one (s_set 5 sc__law_word.nd (e_op o_add (e_var 5) (e_idx (e_var 2) (e_call C__law_take hr (by decide) pass_0 (a_cons (e_var 0) (a_cons (e_int) (a_nil))) (hn := as_cons (as_cons (as_nil rfl)))))))))
      (ss_one (s_ret (e_var 5))))))
theorem sc__law_house : FnScope N__law_house P__law_house (defScope s__law_house) := ⟨rfl, rfl, rfl, by decide +kernel, rfl, by decide +kernel, by decide +kernel⟩
theorem ok__law_house {a : Addr} {fd : FuncData} (T : Txt mg) (Fd : Fn K "_law_house" s__law_house a fd) (hm : mg "_law_house" = some (.ref a)) (C__law_take : Cal P w K mg base CX0 1 "_law_take" 2 f__law_take) (C__law_word : Cal P w K mg base CX0 2 "_law_word" 2 f__law_word) : Cal P w K mg base CX0 3 "_law_house" 1 f__law_house := by
  refine ⟨a, fd, P__law_house, Fd.ok (CX := CX0) (k := 2) sc__law_house (sp_len rfl) fun cdv A outer s H vs Q E hr h => ⟨_, PSs.nox ?_, body_read (b := b__law_house) rfl h⟩, hm, Fd.kp, Fd.bindsN (fun _ _ _ _ _ _ us hl => match us, hl with | [_], _ => rfl)⟩
  exact ss_cons (s_set 1 sc__law_house.nd (e_lst (a_nil)))
      (ss_cons (s_for (own := [2]) PassesOwn.never rfl (i_range1 T.n_range (e_op o_add (e_int) (e_call C__law_take hr (by decide) pass_0 (a_cons (e_var 0) (a_cons (e_int) (a_nil))) (hn := as_cons (as_cons (as_nil rfl)))))) (g_name (own := [2]) 2 sc__law_house.nd) (ss_one (s_expr (e_app (e_var 1) (e_call C__law_word hr (by decide) pass_0 (a_cons (e_var 0) (a_cons (e_var 1) (a_nil))) (hn := as_cons (as_cons (as_nil rfl))))))))
      (ss_cons (s_set 3 sc__law_house.nd (e_lst (a_nil)))
      (ss_cons (s_for (own := [2]) PassesOwn.never rfl (i_range1 T.n_range (e_op o_add (e_int) (e_call C__law_take hr (by decide) pass_0 (a_cons (e_var 0) (a_cons (e_int) (a_nil))) (hn := as_cons (as_cons (as_nil rfl)))))) (g_name (own := [2]) 2 sc__law_house.nd) (ss_one (s_expr (e_app (e_var 3) (e_idx (e_var 1) (e_call C__law_take hr (by decide) pass_0 (a_cons (e_var 0) (a_cons (e_b1 (c_len) T.n_len (by decide +kernel) (e_var 1)) (a_nil))) (hn := as_cons (as_cons (as_nil rfl)))))))))
      (ss_cons (s_set 4 sc__law_house.nd (e_lst (a_nil)))
      (ss_cons (s_set 5 sc__law_house.nd (e_lst (a_nil)))
      (ss_cons (s_for (own := [2]) PassesOwn.never rfl (i_range1 T.n_range (e_op o_add (e_int) (e_call C__law_take hr (by decide) pass_0 (a_cons (e_var 0) (a_cons (e_int) (a_nil))) (hn := as_cons (as_cons (as_nil rfl)))))) (g_name (own := [2]) 2 sc__law_house.nd) (ss_cons (s_set 6 sc__law_house.nd (e_call C__law_word hr (by decide) pass_0 (a_cons (e_var 0) (a_cons (e_op o_add (e_var 1) (e_var 5)) (a_nil))) (hn := as_cons (as_cons (as_nil rfl)))))
      (ss_cons (s_set 7 sc__law_house.nd (e_str (by decide +kernel)))
      (ss_cons (s_if (t_cmp o_gt (e_call C__law_take hr (by decide) pass_0 (a_cons (e_var 0) (a_cons (e_int) (a_nil))) (hn := as_cons (as_cons (as_nil rfl)))) (e_int)) (ss_one (s_set 7 sc__law_house.nd (e_idx (e_var 3) (e_call C__law_take hr (by decide) pass_0 (a_cons (e_var 0) (a_cons (e_b1 (c_len) T.n_len (by decide +kernel) (e_var 3)) (a_nil))) (hn := as_cons (as_cons (as_nil rfl))))))) (ss_nil))
      (ss_one (s_if (t_cmp (o_notIn hr) (e_var 6) (e_var 5)) (ss_cons (s_expr (e_app (e_var 5) (e_var 6)))
      (ss_one (s_expr (e_app (e_var 4) (e_tup (a_cons (e_var 6) (a_cons (e_var 7) (a_nil)))))))) (ss_nil)))))))
      (ss_one (s_ret (e_tup (a_cons (e_t1 (c_tuple) T.n_tuple (by decide +kernel) (e_var 3)) (a_cons (e_t1 (c_tuple) T.n_tuple (by decide +kernel) (e_var 4)) (a_nil))))))))))))
theorem sc__law_same : FnScope N__law_same P__law_same (defScope s__law_same) := ⟨rfl, rfl, rfl, by decide +kernel, rfl, by decide +kernel, by decide +kernel⟩
theorem ok__law_same {a : Addr} {fd : FuncData} (T : Txt mg) (Fd : Fn K "_law_same" s__law_same a fd) (hm : mg "_law_same" = some (.ref a)) : ∀ n : Nat, Cal P w K mg base CX0 (1 + n) "_law_same" 2 (f__law_same n)
  | 0 => cal_bad Fd.kp hm (Fd.bindsN (ps := P__law_same) (fun _ _ _ _ _ _ us hl => match us, hl with | [_, _], _ => rfl)) rfl
  | n + 1 => by
    have ih := ok__law_same T Fd hm n
    refine ⟨a, fd, P__law_same, Fd.ok (CX := CX0) (k := 1 + n) sc__law_same (sp_len rfl) fun cdv A outer s H vs Q E hr h => ⟨_, PSs.nox ?_, body_read (b := b__law_same (f__law_same n)) rfl h⟩, hm, Fd.kp, Fd.bindsN (fun _ _ _ _ _ _ us hl => match us, hl with | [_, _], _ => rfl)⟩
    exact ss_cons (s_if (t_cmp o_isN (e_var 1) (e_non)) (ss_one (s_ret (e_cmp o_isN (e_var 0) (e_non)))) (ss_nil))
      (ss_cons (s_if (t_val (e_isi .bool T.n_isinstance T.n_bool (by decide +kernel) (e_var 1))) (ss_one (s_ret (e_and (e_isi .bool T.n_isinstance T.n_bool (by decide +kernel) (e_var 0)) (e_one (e_cmp (o_eq hr) (e_var 0) (e_var 1)))))) (ss_nil))
      (ss_cons (s_if (t_val (e_isi .int T.n_isinstance T.n_int (by decide +kernel) (e_var 1))) (ss_one (s_ret (e_and (e_isi .int T.n_isinstance T.n_int (by decide +kernel) (e_var 0)) (e_and (e_not (e_isi .bool T.n_isinstance T.n_bool (by decide +kernel) (e_var 0))) (e_one (e_cmp (o_eq hr) (e_var 0) (e_var 1))))))) (ss_nil))
      (ss_cons (s_if (t_val (e_isi .str T.n_isinstance T.n_str (by decide +kernel) (e_var 1))) (ss_one (s_ret (e_and (e_isi .str T.n_isinstance T.n_str (by decide +kernel) (e_var 0)) (e_one (e_cmp (o_eq hr) (e_var 0) (e_var 1)))))) (ss_nil))
      (ss_cons (s_if (t_val (e_isi .tuple T.n_isinstance T.n_tuple (by decide +kernel) (e_var 1))) (ss_one (s_if (t_w (t_or (t_not (t_val (e_isi .tuple T.n_isinstance T.n_tuple (by decide +kernel) (e_var 0)))) (t_or1 (t_cmp (o_ne hr) (e_b1 (c_len) T.n_len (by decide +kernel) (e_var 0)) (e_b1 (c_len) T.n_len (by decide +kernel) (e_var 1)))))) (ss_one (s_ret (e_bl))) (ss_nil))) (ss_one (s_if (t_w (t_or (t_not (t_val (e_isi .list T.n_isinstance T.n_list (by decide +kernel) (e_var 0)))) (t_or1 (t_cmp (o_ne hr) (e_b1 (c_len) T.n_len (by decide +kernel) (e_var 0)) (e_b1 (c_len) T.n_len (by decide +kernel) (e_var 1)))))) (ss_one (s_ret (e_bl))) (ss_nil))))
      (ss_cons (s_for (own := [2]) PassesOwn.never rfl (i_range1 T.n_range (e_b1 (c_len) T.n_len (by decide +kernel) (e_var 1))) (g_name (own := [2]) 2 sc__law_same.nd) (ss_one (s_if (t_not (t_val (e_call ih hr (by omega) pass_0 (a_cons (e_idx (e_var 0) (e_var 2)) (a_cons (e_idx (e_var 1) (e_var 2)) (a_nil))) (hn := as_cons (as_cons (as_nil rfl)))))) (ss_one (s_ret (e_bl))) (ss_nil))))
      (ss_one (s_ret (e_bl))))))))
theorem sc__law_copy : FnScope N__law_copy P__law_copy (defScope s__law_copy) := ⟨rfl, rfl, rfl, by decide +kernel, rfl, by decide +kernel, by decide +kernel⟩
theorem ok__law_copy {a : Addr} {fd : FuncData} (T : Txt mg) (Fd : Fn K "_law_copy" s__law_copy a fd) (hm : mg "_law_copy" = some (.ref a)) : ∀ n : Nat, Cal P w K mg base CX0 (1 + n) "_law_copy" 1 (f__law_copy n)
  | 0 => cal_bad Fd.kp hm (Fd.bindsN (ps := P__law_copy) (fun _ _ _ _ _ _ us hl => match us, hl with | [_], _ => rfl)) rfl
  | n + 1 => by
    have ih := ok__law_copy T Fd hm n
    refine ⟨a, fd, P__law_copy, Fd.ok (CX := CX0) (k := 1 + n) sc__law_copy (sp_len rfl) fun cdv A outer s H vs Q E hr h => ⟨_, PSs.nox ?_, body_read (b := b__law_copy (f__law_copy n)) rfl h⟩, hm, Fd.kp, Fd.bindsN (fun _ _ _ _ _ _ us hl => match us, hl with | [_], _ => rfl)⟩
    exact ss_cons (s_if (t_val (e_isi .list T.n_isinstance T.n_list (by decide +kernel) (e_var 0))) (ss_one (s_ret (e_lc [("part", 1)] rfl sc__law_copy.nd (i_any (e_var 0)) (blkOk_by (own := [("part", 1)]) (N := N__law_copy) (sc := defScope s__law_copy) (by decide +kernel)) (fun _ _ _ _ _ => g_name (own := [1]) 1 sc__law_copy.nd) (fun _ _ _ _ _ => cs_nil) (fun _ _ _ _ _ => e_call ih hr (by omega) pass_0 (a_cons (e_var 1) (a_nil)) (hn := as_cons (as_nil rfl)))))) (ss_nil))
      (ss_cons (s_if (t_val (e_isi .tuple T.n_isinstance T.n_tuple (by decide +kernel) (e_var 0))) (ss_one (s_ret (e_t1 (c_tuple) T.n_tuple (by decide +kernel) (e_lc [("part", 1)] rfl sc__law_copy.nd (i_any (e_var 0)) (blkOk_by (own := [("part", 1)]) (N := N__law_copy) (sc := defScope s__law_copy) (by decide +kernel)) (fun _ _ _ _ _ => g_name (own := [1]) 1 sc__law_copy.nd) (fun _ _ _ _ _ => cs_nil) (fun _ _ _ _ _ => e_call ih hr (by omega) pass_0 (a_cons (e_var 1) (a_nil)) (hn := as_cons (as_nil rfl))))))) (ss_nil))
      (ss_one (s_ret (e_var 0))))
theorem sc__law_signs : FnScope N__law_signs P__law_signs (defScope s__law_signs) := ⟨rfl, rfl, rfl, by decide +kernel, rfl, by decide +kernel, by decide +kernel⟩
theorem ok__law_signs {a : Addr} {fd : FuncData} (T : Txt mg) (Fd : Fn K "_law_signs" s__law_signs a fd) (hm : mg "_law_signs" = some (.ref a)) : Cal P w K mg base CX0 1 "_law_signs" 0 f__law_signs := by
  refine ⟨a, fd, P__law_signs, Fd.ok (CX := CX0) (k := 0) sc__law_signs (sp_len rfl) fun cdv A outer s H vs Q E hr h => ⟨_, PSs.nox ?_, body_read (b := b__law_signs) rfl h⟩, hm, Fd.kp, Fd.bindsN (fun _ _ _ _ _ _ us hl => match us, hl with | [], _ => rfl)⟩
  exact ss_cons (s_set 0 sc__law_signs.nd (e_str (by decide +kernel)))
      (ss_one (s_ret (e_op o_add (e_var 0) (e_str (by decide +kernel)))))
theorem sc__law_text : FnScope N__law_text P__law_text (defScope s__law_text) := ⟨rfl, rfl, rfl, by decide +kernel, rfl, by decide +kernel, by decide +kernel⟩
theorem ok__law_text {a : Addr} {fd : FuncData} (T : Txt mg) (Fd : Fn K "_law_text" s__law_text a fd) (hm : mg "_law_text" = some (.ref a)) (C__law_take : Cal P w K mg base CX0 1 "_law_take" 2 f__law_take) (C__law_signs : Cal P w K mg base CX0 1 "_law_signs" 0 f__law_signs) : Cal P w K mg base CX0 2 "_law_text" 1 f__law_text := by
  refine ⟨a, fd, P__law_text, Fd.ok (CX := CX0) (k := 1) sc__law_text (sp_len rfl) fun cdv A outer s H vs Q E hr h => ⟨_, PSs.nox ?_, body_read (b := b__law_text) rfl h⟩, hm, Fd.kp, Fd.bindsN (fun _ _ _ _ _ _ us hl => match us, hl with | [_], _ => rfl)⟩
  exact ss_cons (s_set 1 sc__law_text.nd (e_call0 C__law_signs hr (by decide) pass_0 ))
      (ss_cons (s_set 2 sc__law_text.nd (e_lst (a_cons (e_int) (a_cons (e_int) (a_cons (e_int) (a_cons (e_int) (a_cons (e_call C__law_take hr (by decide) pass_0 (a_cons (e_var 0) (a_cons (e_int) (a_nil))) (hn := as_cons (as_cons (as_nil rfl)))) (a_nil))))))))
      (ss_cons (s_set 3 sc__law_text.nd (e_str (by decide +kernel)))
      (ss_cons (s_for (own := [4]) PassesOwn.never rfl (i_range1 T.n_range (e_idx (e_var 2) (e_call C__law_take hr (by decide) pass_0 (a_cons (e_var 0) (a_cons (e_int) (a_nil))) (hn := as_cons (as_cons (as_nil rfl)))))) (g_name (own := [4]) 4 sc__law_text.nd) (ss_one (s_set 3 sc__law_text.nd (e_op o_add (e_var 3) (e_idx (e_var 1) (e_call C__law_take hr (by decide) pass_0 (a_cons (e_var 0) (a_cons (e_int) (a_nil))) (hn := as_cons (as_cons (as_nil rfl)))))))))
      (ss_one (s_ret (e_var 3))))))
theorem sc__law_is_int : FnScope N__law_is_int P__law_is_int (defScope s__law_is_int) := ⟨rfl, rfl, rfl, by decide +kernel, rfl, by decide +kernel, by decide +kernel⟩
theorem ok__law_is_int {a : Addr} {fd : FuncData} (T : Txt mg) (Fd : Fn K "_law_is_int" s__law_is_int a fd) (hm : mg "_law_is_int" = some (.ref a)) : Cal P w K mg base CX0 1 "_law_is_int" 1 f__law_is_int := by
  refine ⟨a, fd, P__law_is_int, Fd.ok (CX := CX0) (k := 0) sc__law_is_int (sp_len rfl) fun cdv A outer s H vs Q E hr h => ⟨_, PSs.nox ?_, body_read (b := b__law_is_int) rfl h⟩, hm, Fd.kp, Fd.bindsN (fun _ _ _ _ _ _ us hl => match us, hl with | [_], _ => rfl)⟩
  exact ss_one (s_ret (e_and (e_isi .int T.n_isinstance T.n_int (by decide +kernel) (e_var 0)) (e_one (e_not (e_isi .bool T.n_isinstance T.n_bool (by decide +kernel) (e_var 0))))))
theorem sc__law_is_text : FnScope N__law_is_text P__law_is_text (defScope s__law_is_text) := ⟨rfl, rfl, rfl, by decide +kernel, rfl, by decide +kernel, by decide +kernel⟩
theorem ok__law_is_text {a : Addr} {fd : FuncData} (T : Txt mg) (Fd : Fn K "_law_is_text" s__law_is_text a fd) (hm : mg "_law_is_text" = some (.ref a)) (C__law_signs : Cal P w K mg base CX0 1 "_law_signs" 0 f__law_signs) : Cal P w K mg base CX0 2 "_law_is_text" 1 f__law_is_text := by
  refine ⟨a, fd, P__law_is_text, Fd.ok (CX := CX0) (k := 1) sc__law_is_text (sp_len rfl) fun cdv A outer s H vs Q E hr h => ⟨_, PSs.nox ?_, body_read (b := b__law_is_text) rfl h⟩, hm, Fd.kp, Fd.bindsN (fun _ _ _ _ _ _ us hl => match us, hl with | [_], _ => rfl)⟩
  exact ss_cons (s_if (t_w (t_or (t_not (t_val (e_isi .str T.n_isinstance T.n_str (by decide +kernel) (e_var 0)))) (t_or1 (t_cmp o_gt (e_b1 (c_len) T.n_len (by decide +kernel) (e_var 0)) (e_int))))) (ss_one (s_ret (e_bl))) (ss_nil))
      (ss_cons (s_set 1 sc__law_is_text.nd (e_call0 C__law_signs hr (by decide) pass_0 ))
      (ss_cons (s_for (own := [2]) PassesOwn.never rfl (i_any (e_var 0)) (g_name (own := [2]) 2 sc__law_is_text.nd) (ss_one (s_if (t_cmp (o_notIn hr) (e_var 2) (e_var 1)) (ss_one (s_ret (e_bl))) (ss_nil))))
      (ss_one (s_ret (e_bl)))))
theorem sc__law_is_name : FnScope N__law_is_name P__law_is_name (defScope s__law_is_name) := ⟨rfl, rfl, rfl, by decide +kernel, rfl, by decide +kernel, by decide +kernel⟩
theorem ok__law_is_name {a : Addr} {fd : FuncData} (T : Txt mg) (Fd : Fn K "_law_is_name" s__law_is_name a fd) (hm : mg "_law_is_name" = some (.ref a)) (C__law_is_int : Cal P w K mg base CX0 1 "_law_is_int" 1 f__law_is_int) : Cal P w K mg base CX0 2 "_law_is_name" 2 f__law_is_name := by
  refine ⟨a, fd, P__law_is_name, Fd.ok (CX := CX0) (k := 1) sc__law_is_name (sp_len rfl) fun cdv A outer s H vs Q E hr h => ⟨_, PSs.nox ?_, body_read (b := b__law_is_name) rfl h⟩, hm, Fd.kp, Fd.bindsN (fun _ _ _ _ _ _ us hl => match us, hl with | [_, _], _ => rfl)⟩
  exact ss_cons (s_if (t_w (t_or (t_not (t_val (e_isi .tuple T.n_isinstance T.n_tuple (by decide +kernel) (e_var 1)))) (t_or1 (t_cmp (o_ne hr) (e_b1 (c_len) T.n_len (by decide +kernel) (e_var 1)) (e_int))))) (ss_one (s_ret (e_bl))) (ss_nil))
      (ss_cons (s_if (t_w (t_or (t_not (t_val (e_call C__law_is_int hr (by decide) pass_0 (a_cons (e_idx (e_var 1) (e_int)) (a_nil)) (hn := as_cons (as_nil rfl))))) (t_or1 (t_not (t_val (e_call C__law_is_int hr (by decide) pass_0 (a_cons (e_idx (e_var 1) (e_int)) (a_nil)) (hn := as_cons (as_nil rfl)))))))) (ss_one (s_ret (e_bl))) (ss_nil))
      (ss_one (s_ret (e_and (e_cmp o_ge (e_idx (e_var 1) (e_int)) (e_int)) (e_and (e_cmp o_ge (e_idx (e_var 1) (e_int)) (e_int)) (e_one (e_cmp o_lt (e_idx (e_var 1) (e_int)) (e_b1 (c_len) T.n_len (by decide +kernel) (e_idx (e_var 0) (e_int))))))))))
theorem sc__law_is_deed : FnScope N__law_is_deed P__law_is_deed (defScope s__law_is_deed) := ⟨rfl, rfl, rfl, by decide +kernel, rfl, by decide +kernel, by decide +kernel⟩
theorem ok__law_is_deed {a : Addr} {fd : FuncData} (T : Txt mg) (Fd : Fn K "_law_is_deed" s__law_is_deed a fd) (hm : mg "_law_is_deed" = some (.ref a)) (C__law_is_text : Cal P w K mg base CX0 2 "_law_is_text" 1 f__law_is_text) (C__law_is_name : Cal P w K mg base CX0 2 "_law_is_name" 2 f__law_is_name) : Cal P w K mg base CX0 3 "_law_is_deed" 2 f__law_is_deed := by
  refine ⟨a, fd, P__law_is_deed, Fd.ok (CX := CX0) (k := 2) sc__law_is_deed (sp_len rfl) fun cdv A outer s H vs Q E hr h => ⟨_, PSs.nox ?_, body_read (b := b__law_is_deed) rfl h⟩, hm, Fd.kp, Fd.bindsN (fun _ _ _ _ _ _ us hl => match us, hl with | [_, _], _ => rfl)⟩
  exact ss_cons (s_if (t_w (t_or (t_not (t_val (e_isi .tuple T.n_isinstance T.n_tuple (by decide +kernel) (e_var 1)))) (t_or1 (t_cmp o_lt (e_b1 (c_len) T.n_len (by decide +kernel) (e_var 1)) (e_int))))) (ss_one (s_ret (e_bl))) (ss_nil))
      (ss_cons (s_if (t_w (t_or (t_not (t_val (e_isi .str T.n_isinstance T.n_str (by decide +kernel) (e_idx (e_var 1) (e_int))))) (t_or1 (t_not (t_val (e_isi .str T.n_isinstance T.n_str (by decide +kernel) (e_idx (e_var 1) (e_int)))))))) (ss_one (s_ret (e_bl))) (ss_nil))
      (ss_cons (s_if (t_cmp (o_notIn hr) (e_idx (e_var 1) (e_int)) (e_lc [("pair", 2)] rfl sc__law_is_deed.nd (i_any (e_idx (e_var 0) (e_int))) (blkOk_by (own := [("pair", 2)]) (N := N__law_is_deed) (sc := defScope s__law_is_deed) (by decide +kernel)) (fun _ _ _ _ _ => g_name (own := [2]) 2 sc__law_is_deed.nd) (fun _ _ _ _ _ => cs_nil) (fun _ _ _ _ _ => e_idx (e_var 2) (e_int)))) (ss_one (s_ret (e_bl))) (ss_nil))
      (ss_cons (s_if (t_w (t_and (t_cmp (o_eq hr) (e_idx (e_var 1) (e_int)) (e_str (by decide +kernel))) (t_and1 (t_cmp (o_eq hr) (e_b1 (c_len) T.n_len (by decide +kernel) (e_var 1)) (e_int))))) (ss_one (s_ret (e_and (e_or (e_cmp o_isN (e_idx (e_var 1) (e_int)) (e_non)) (e_one (e_call C__law_is_name hr (by decide) pass_0 (a_cons (e_var 0) (a_cons (e_idx (e_var 1) (e_int)) (a_nil))) (hn := as_cons (as_cons (as_nil rfl)))))) (e_one (e_call C__law_is_text hr (by decide) pass_0 (a_cons (e_idx (e_var 1) (e_int)) (a_nil)) (hn := as_cons (as_nil rfl))))))) (ss_nil))
      (ss_cons (s_if (t_w (t_and (t_cmp (o_eq hr) (e_idx (e_var 1) (e_int)) (e_str (by decide +kernel))) (t_and1 (t_cmp (o_eq hr) (e_b1 (c_len) T.n_len (by decide +kernel) (e_var 1)) (e_int))))) (ss_cons (s_if (t_w (t_or (t_not (t_val (e_call C__law_is_name hr (by decide) pass_0 (a_cons (e_var 0) (a_cons (e_idx (e_var 1) (e_int)) (a_nil))) (hn := as_cons (as_cons (as_nil rfl)))))) (t_or1 (t_not (t_val (e_call C__law_is_text hr (by decide) pass_0 (a_cons (e_idx (e_var 1) (e_int)) (a_nil)) (hn := as_cons (as_nil rfl)))))))) (ss_one (s_ret (e_bl))) (ss_nil))
      (ss_one (s_ret (e_or (e_cmp o_isN (e_idx (e_var 1) (e_int)) (e_non)) (e_one (e_call C__law_is_name hr (by decide) pass_0 (a_cons (e_var 0) (a_cons (e_idx (e_var 1) (e_int)) (a_nil))) (hn := as_cons (as_cons (as_nil rfl))))))))) (ss_nil))
      (ss_cons (s_if (t_w (t_and (t_cmp (o_eq hr) (e_idx (e_var 1) (e_int)) (e_str (by decide +kernel))) (t_and1 (t_cmp (o_eq hr) (e_b1 (c_len) T.n_len (by decide +kernel) (e_var 1)) (e_int))))) (ss_one (s_ret (e_call C__law_is_name hr (by decide) pass_0 (a_cons (e_var 0) (a_cons (e_idx (e_var 1) (e_int)) (a_nil))) (hn := as_cons (as_cons (as_nil rfl)))))) (ss_nil))
      (ss_one (s_ret (e_and (e_cmp (o_in hr) (e_idx (e_var 1) (e_int)) (e_lst (a_cons (e_str (by decide +kernel)) (a_cons (e_str (by decide +kernel)) (a_cons (e_str (by decide +kernel)) (a_nil)))))) (e_one (e_cmp (o_eq hr) (e_b1 (c_len) T.n_len (by decide +kernel) (e_var 1)) (e_int)))))))))))
theorem sc__law_shape : FnScope N__law_shape P__law_shape (defScope s__law_shape) := ⟨rfl, rfl, rfl, by decide +kernel, rfl, by decide +kernel, by decide +kernel⟩
theorem ok__law_shape {a : Addr} {fd : FuncData} (T : Txt mg) (Fd : Fn K "_law_shape" s__law_shape a fd) (hm : mg "_law_shape" = some (.ref a)) (C__law_is_int : Cal P w K mg base CX0 1 "_law_is_int" 1 f__law_is_int) (C__law_is_name : Cal P w K mg base CX0 2 "_law_is_name" 2 f__law_is_name) (C__law_is_deed : Cal P w K mg base CX0 3 "_law_is_deed" 2 f__law_is_deed) : Cal P w K mg base CX0 4 "_law_shape" 2 f__law_shape := by
  refine ⟨a, fd, P__law_shape, Fd.ok (CX := CX0) (k := 3) sc__law_shape (sp_len rfl) fun cdv A outer s H vs Q E hr h => ⟨_, PSs.nox ?_, body_read (b := b__law_shape) rfl h⟩, hm, Fd.kp, Fd.bindsN (fun _ _ _ _ _ _ us hl => match us, hl with | [_, _], _ => rfl)⟩
  exact ss_cons (s_if (t_w (t_or (t_not (t_val (e_isi .tuple T.n_isinstance T.n_tuple (by decide +kernel) (e_var 1)))) (t_or1 (t_cmp (o_ne hr) (e_b1 (c_len) T.n_len (by decide +kernel) (e_var 1)) (e_int))))) (ss_one (s_ret (e_bl))) (ss_nil))
      (ss_cons (s_if (t_not (t_val (e_call C__law_is_name hr (by decide) pass_0 (a_cons (e_var 0) (a_cons (e_tup (a_cons (e_idx (e_var 1) (e_int)) (a_cons (e_idx (e_var 1) (e_int)) (a_nil)))) (a_nil))) (hn := as_cons (as_cons (as_nil rfl)))))) (ss_one (s_ret (e_bl))) (ss_nil))
      (ss_cons (s_if (t_w (t_or (t_not (t_val (e_isi .tuple T.n_isinstance T.n_tuple (by decide +kernel) (e_idx (e_var 1) (e_int))))) (t_or1 (t_cmp (o_ne hr) (e_b1 (c_len) T.n_len (by decide +kernel) (e_idx (e_var 1) (e_int))) (e_b1 (c_len) T.n_len (by decide +kernel) (e_idx (e_var 0) (e_int))))))) (ss_one (s_ret (e_bl))) (ss_nil))
      (ss_cons (s_for (own := [2]) PassesOwn.never rfl (i_any (e_idx (e_var 1) (e_int))) (g_name (own := [2]) 2 sc__law_shape.nd) (ss_one (s_if (t_w (t_or (t_not (t_val (e_call C__law_is_int hr (by decide) pass_0 (a_cons (e_var 2) (a_nil)) (hn := as_cons (as_nil rfl))))) (t_or1 (t_cmp o_lt (e_var 2) (e_int))))) (ss_one (s_ret (e_bl))) (ss_nil))))
      (ss_one (s_ret (e_call C__law_is_deed hr (by decide) pass_0 (a_cons (e_var 0) (a_cons (e_idx (e_var 1) (e_int)) (a_nil))) (hn := as_cons (as_cons (as_nil rfl)))))))))
theorem sc__law_put : FnScope N__law_put P__law_put (defScope s__law_put) := ⟨rfl, rfl, rfl, by decide +kernel, rfl, by decide +kernel, by decide +kernel⟩
theorem ok__law_put {a : Addr} {fd : FuncData} (T : Txt mg) (Fd : Fn K "_law_put" s__law_put a fd) (hm : mg "_law_put" = some (.ref a)) : Cal P w K mg base CX0 1 "_law_put" 3 f__law_put := by
  refine ⟨a, fd, P__law_put, Fd.ok (CX := CX0) (k := 0) sc__law_put (sp_len rfl) fun cdv A outer s H vs Q E hr h => ⟨_, PSs.nox ?_, body_read (b := b__law_put) rfl h⟩, hm, Fd.kp, Fd.bindsN (fun _ _ _ _ _ _ us hl => match us, hl with | [_, _, _], _ => rfl)⟩
  exact ss_one (s_ret (e_op o_add (e_op o_add (e_sl (e_var 0) oo_none (oo_some (e_var 1))) (e_tup (a_cons (e_var 2) (a_nil)))) (e_sl (e_var 0) (oo_some (e_op o_add (e_var 1) (e_int))) oo_none)))
theorem sc__law_odd : FnScope N__law_odd P__law_odd (defScope s__law_odd) := ⟨rfl, rfl, rfl, by decide +kernel, rfl, by decide +kernel, by decide +kernel⟩
theorem ok__law_odd {a : Addr} {fd : FuncData} (T : Txt mg) (Fd : Fn K "_law_odd" s__law_odd a fd) (hm : mg "_law_odd" = some (.ref a)) (C__law_take : Cal P w K mg base CX0 1 "_law_take" 2 f__law_take) : Cal P w K mg base CX0 2 "_law_odd" 2 f__law_odd := by
  refine ⟨a, fd, P__law_odd, Fd.ok (CX := CX0) (k := 1) sc__law_odd (sp_len rfl) fun cdv A outer s H vs Q E hr h => ⟨_, PSs.nox ?_, body_read (b := b__law_odd) rfl h⟩, hm, Fd.kp, Fd.bindsN (fun _ _ _ _ _ _ us hl => match us, hl with | [_, _], _ => rfl)⟩
  exact ss_cons (s_set 2 sc__law_odd.nd (e_lst (a_cons (e_non) (a_cons (e_bl) (a_cons (e_bl) (a_cons (e_un o_neg (e_int)) (a_cons (e_int) (a_cons (e_int) (a_cons (e_int) (a_cons (e_var 1) (a_cons (e_str (by decide +kernel)) (a_cons (e_str (by decide +kernel)) (a_cons (e_str (by decide +kernel)) (a_cons (e_str (by decide +kernel)) (a_cons (e_tup (a_nil)) (a_cons (e_lst (a_nil)) (a_cons (e_tup (a_cons (e_int) (a_cons (e_int) (a_nil)))) (a_cons (e_lst (a_cons (e_int) (a_cons (e_int) (a_nil)))) (a_cons (e_tup (a_cons (e_int) (a_cons (e_int) (a_nil)))) (a_cons (e_tup (a_cons (e_int) (a_cons (e_bl) (a_nil)))) (a_nil)))))))))))))))))))))
      (ss_cons (s_set 2 sc__law_odd.nd (e_op o_add (e_var 2) (e_lst (a_cons (e_tup (a_cons (e_bl) (a_cons (e_int) (a_nil)))) (a_cons (e_tup (a_cons (e_int) (a_cons (e_var 1) (a_nil)))) (a_cons (e_tup (a_cons (e_int) (a_cons (e_un o_neg (e_int)) (a_nil)))) (a_cons (e_tup (a_cons (e_int) (a_nil))) (a_cons (e_tup (a_cons (e_int) (a_cons (e_int) (a_cons (e_int) (a_nil))))) (a_cons (e_tup (a_cons (e_tup (a_cons (e_int) (a_cons (e_int) (a_nil)))) (a_nil))) (a_cons (e_op o_mul (e_str (by decide +kernel)) (e_int)) (a_cons (e_tup (a_cons (e_int) (a_cons (e_str (by decide +kernel)) (a_nil)))) (a_nil))))))))))))
      (ss_one (s_ret (e_idx (e_var 2) (e_call C__law_take hr (by decide) pass_0 (a_cons (e_var 0) (a_cons (e_int) (a_nil))) (hn := as_cons (as_cons (as_nil rfl))))))))
theorem sc__law_name : FnScope N__law_name P__law_name (defScope s__law_name) := ⟨rfl, rfl, rfl, by decide +kernel, rfl, by decide +kernel, by decide +kernel⟩
theorem ok__law_name {a : Addr} {fd : FuncData} (T : Txt mg) (Fd : Fn K "_law_name" s__law_name a fd) (hm : mg "_law_name" = some (.ref a)) (C__law_take : Cal P w K mg base CX0 1 "_law_take" 2 f__law_take) : Cal P w K mg base CX0 2 "_law_name" 2 f__law_name := by
  refine ⟨a, fd, P__law_name, Fd.ok (CX := CX0) (k := 1) sc__law_name (sp_len rfl) fun cdv A outer s H vs Q E hr h => ⟨_, PSs.nox ?_, body_read (b := b__law_name) rfl h⟩, hm, Fd.kp, Fd.bindsN (fun _ _ _ _ _ _ us hl => match us, hl with | [_, _], _ => rfl)⟩
  exact ss_one (s_ret (e_tup (a_cons (e_op o_add (e_int) (e_call C__law_take hr (by decide) pass_0 (a_cons (e_var 0) (a_cons (e_idx (e_lst (a_cons (e_int) (a_cons (e_int) (a_cons (e_op o_pow (e_int) (e_int)) (a_nil))))) (e_call C__law_take hr (by decide) pass_0 (a_cons (e_var 0) (a_cons (e_int) (a_nil))) (hn := as_cons (as_cons (as_nil rfl))))) (a_nil))) (hn := as_cons (as_cons (as_nil rfl))))) (a_cons (e_call C__law_take hr (by decide) pass_0 (a_cons (e_var 0) (a_cons (e_var 1) (a_nil))) (hn := as_cons (as_cons (as_nil rfl)))) (a_nil)))))
theorem sc__law_deed : FnScope N__law_deed P__law_deed (defScope s__law_deed) := ⟨rfl, rfl, rfl, by decide +kernel, rfl, by decide +kernel, by decide +kernel⟩
theorem ok__law_deed {a : Addr} {fd : FuncData} (T : Txt mg) (Fd : Fn K "_law_deed" s__law_deed a fd) (hm : mg "_law_deed" = some (.ref a)) (C__law_take : Cal P w K mg base CX0 1 "_law_take" 2 f__law_take) (C__law_text : Cal P w K mg base CX0 2 "_law_text" 1 f__law_text) (C__law_name : Cal P w K mg base CX0 2 "_law_name" 2 f__law_name) : Cal P w K mg base CX0 3 "_law_deed" 2 f__law_deed := by
  refine ⟨a, fd, P__law_deed, Fd.ok (CX := CX0) (k := 2) sc__law_deed (sp_len rfl) fun cdv A outer s H vs Q E hr h => ⟨_, PSs.nox ?_, body_read (b := b__law_deed) rfl h⟩, hm, Fd.kp, Fd.bindsN (fun _ _ _ _ _ _ us hl => match us, hl with | [_, _], _ => rfl)⟩
  exact ss_cons (s_set 2 sc__law_deed.nd (e_b1 (c_len) T.n_len (by decide +kernel) (e_idx (e_var 1) (e_int))))
      (ss_cons (s_set 3 sc__law_deed.nd (e_idx (e_idx (e_idx (e_var 1) (e_int)) (e_call C__law_take hr (by decide) pass_0 (a_cons (e_var 0) (a_cons (e_b1 (c_len) T.n_len (by decide +kernel) (e_idx (e_var 1) (e_int))) (a_nil))) (hn := as_cons (as_cons (as_nil rfl))))) (e_int)))
      (ss_cons (s_set 4 sc__law_deed.nd (e_non))
      (ss_cons (s_if (t_cmp (o_eq hr) (e_call C__law_take hr (by decide) pass_0 (a_cons (e_var 0) (a_cons (e_int) (a_nil))) (hn := as_cons (as_cons (as_nil rfl)))) (e_int)) (ss_one (s_set 4 sc__law_deed.nd (e_call C__law_name hr (by decide) pass_0 (a_cons (e_var 0) (a_cons (e_var 2) (a_nil))) (hn := as_cons (as_cons (as_nil rfl)))))) (ss_nil))
      (ss_cons (s_set 5 sc__law_deed.nd (e_call C__law_take hr (by decide) pass_0 (a_cons (e_var 0) (a_cons (e_int) (a_nil))) (hn := as_cons (as_cons (as_nil rfl)))))
      (ss_cons (s_if (t_cmp o_lt (e_var 5) (e_int)) (ss_one (s_ret (e_tup (a_cons (e_str (by decide +kernel)) (a_cons (e_var 3) (a_cons (e_var 4) (a_cons (e_call C__law_text hr (by decide) pass_0 (a_cons (e_var 0) (a_nil)) (hn := as_cons (as_nil rfl))) (a_nil)))))))) (ss_nil))
      (ss_cons (s_if (t_cmp o_lt (e_var 5) (e_int)) (ss_one (s_ret (e_tup (a_cons (e_str (by decide +kernel)) (a_cons (e_var 3) (a_cons (e_call C__law_name hr (by decide) pass_0 (a_cons (e_var 0) (a_cons (e_var 2) (a_nil))) (hn := as_cons (as_cons (as_nil rfl)))) (a_cons (e_var 4) (a_cons (e_call C__law_text hr (by decide) pass_0 (a_cons (e_var 0) (a_nil)) (hn := as_cons (as_nil rfl))) (a_nil))))))))) (ss_nil))
      (ss_cons (s_if (t_cmp (o_eq hr) (e_var 5) (e_int)) (ss_one (s_ret (e_tup (a_cons (e_str (by decide +kernel)) (a_cons (e_var 3) (a_cons (e_call C__law_name hr (by decide) pass_0 (a_cons (e_var 0) (a_cons (e_var 2) (a_nil))) (hn := as_cons (as_cons (as_nil rfl)))) (a_nil))))))) (ss_nil))
      (ss_one (s_ret (e_tup (a_cons (e_idx (e_lst (a_cons (e_str (by decide +kernel)) (a_cons (e_str (by decide +kernel)) (a_cons (e_str (by decide +kernel)) (a_nil))))) (e_op o_sub (e_var 5) (e_int))) (a_cons (e_var 3) (a_nil)))))))))))))
theorem sc__law_entry : FnScope N__law_entry P__law_entry (defScope s__law_entry) := ⟨rfl, rfl, rfl, by decide +kernel, rfl, by decide +kernel, by decide +kernel⟩
theorem ok__law_entry {a : Addr} {fd : FuncData} (T : Txt mg) (Fd : Fn K "_law_entry" s__law_entry a fd) (hm : mg "_law_entry" = some (.ref a)) (C__law_take : Cal P w K mg base CX0 1 "_law_take" 2 f__law_take) (C__law_name : Cal P w K mg base CX0 2 "_law_name" 2 f__law_name) (C__law_deed : Cal P w K mg base CX0 3 "_law_deed" 2 f__law_deed) : Cal P w K mg base CX0 4 "_law_entry" 2 f__law_entry := by
  refine ⟨a, fd, P__law_entry, Fd.ok (CX := CX0) (k := 3) sc__law_entry (sp_len rfl) fun cdv A outer s H vs Q E hr h => ⟨_, PSs.nox ?_, body_read (b := b__law_entry) rfl h⟩, hm, Fd.kp, Fd.bindsN (fun _ _ _ _ _ _ us hl => match us, hl with | [_, _], _ => rfl)⟩
  exact ss_cons (s_set 2 sc__law_entry.nd (e_b1 (c_len) T.n_len (by decide +kernel) (e_idx (e_var 1) (e_int))))
      (ss_cons (s_set 3 sc__law_entry.nd (e_lst (a_nil)))
      (ss_cons (s_for (own := [4]) PassesOwn.never rfl (i_range1 T.n_range (e_var 2)) (g_name (own := [4]) 4 sc__law_entry.nd) (ss_one (s_expr (e_app (e_var 3) (e_call C__law_take hr (by decide) pass_0 (a_cons (e_var 0) (a_cons (e_idx (e_lst (a_cons (e_int) (a_cons (e_int) (a_cons (e_int) (a_cons (e_op o_pow (e_int) (e_int)) (a_nil)))))) (e_call C__law_take hr (by decide) pass_0 (a_cons (e_var 0) (a_cons (e_int) (a_nil))) (hn := as_cons (as_cons (as_nil rfl))))) (a_nil))) (hn := as_cons (as_cons (as_nil rfl))))))))
      (ss_cons (s_set 5 sc__law_entry.nd (e_call C__law_name hr (by decide) pass_0 (a_cons (e_var 0) (a_cons (e_var 2) (a_nil))) (hn := as_cons (as_cons (as_nil rfl)))))
      (ss_one (s_ret (e_tup (a_cons (e_idx (e_var 5) (e_int)) (a_cons (e_idx (e_var 5) (e_int)) (a_cons (e_t1 (c_tuple) T.n_tuple (by decide +kernel) (e_var 3)) (a_cons (e_call C__law_deed hr (by decide) pass_0 (a_cons (e_var 0) (a_cons (e_var 1) (a_nil))) (hn := as_cons (as_cons (as_nil rfl)))) (a_nil)))))))))))
theorem sc__law_spoil_deed : FnScope N__law_spoil_deed P__law_spoil_deed (defScope s__law_spoil_deed) := ⟨rfl, rfl, rfl, by decide +kernel, rfl, by decide +kernel, by decide +kernel⟩
theorem ok__law_spoil_deed {a : Addr} {fd : FuncData} (T : Txt mg) (Fd : Fn K "_law_spoil_deed" s__law_spoil_deed a fd) (hm : mg "_law_spoil_deed" = some (.ref a)) (C__law_take : Cal P w K mg base CX0 1 "_law_take" 2 f__law_take) (C__law_put : Cal P w K mg base CX0 1 "_law_put" 3 f__law_put) (C__law_odd : Cal P w K mg base CX0 2 "_law_odd" 2 f__law_odd) : Cal P w K mg base CX0 3 "_law_spoil_deed" 3 f__law_spoil_deed := by
  refine ⟨a, fd, P__law_spoil_deed, Fd.ok (CX := CX0) (k := 2) sc__law_spoil_deed (sp_len rfl) fun cdv A outer s H vs Q E hr h => ⟨_, PSs.nox ?_, body_read (b := b__law_spoil_deed) rfl h⟩, hm, Fd.kp, Fd.bindsN (fun _ _ _ _ _ _ us hl => match us, hl with | [_, _, _], _ => rfl)⟩
  exact ss_cons (s_set 3 sc__law_spoil_deed.nd (e_b1 (c_len) T.n_len (by decide +kernel) (e_idx (e_var 1) (e_int))))
      (ss_cons (s_set 4 sc__law_spoil_deed.nd (e_call C__law_take hr (by decide) pass_0 (a_cons (e_var 0) (a_cons (e_b1 (c_len) T.n_len (by decide +kernel) (e_var 2)) (a_nil))) (hn := as_cons (as_cons (as_nil rfl)))))
      (ss_cons (s_set 5 sc__law_spoil_deed.nd (e_call C__law_take hr (by decide) pass_0 (a_cons (e_var 0) (a_cons (e_int) (a_nil))) (hn := as_cons (as_cons (as_nil rfl)))))
      (ss_cons (s_set 6 sc__law_spoil_deed.nd (e_call C__law_odd hr (by decide) pass_0 (a_cons (e_var 0) (a_cons (e_var 3) (a_nil))) (hn := as_cons (as_cons (as_nil rfl)))))
      (ss_cons (s_if (t_cmp (o_eq hr) (e_var 5) (e_int)) (ss_one (s_ret (e_t1 (c_list) T.n_list (by decide +kernel) (e_var 2)))) (ss_nil))
      (ss_cons (s_if (t_cmp (o_eq hr) (e_var 5) (e_int)) (ss_one (s_ret (e_sl (e_var 2) oo_none (oo_some (e_op o_sub (e_b1 (c_len) T.n_len (by decide +kernel) (e_var 2)) (e_int)))))) (ss_nil))
      (ss_cons (s_if (t_cmp (o_eq hr) (e_var 5) (e_int)) (ss_one (s_ret (e_op o_add (e_var 2) (e_tup (a_cons (e_var 6) (a_nil)))))) (ss_nil))
      (ss_cons (s_if (t_cmp (o_eq hr) (e_var 5) (e_int)) (ss_cons (s_set 7 sc__law_spoil_deed.nd (e_lst (a_cons (e_str (by decide +kernel)) (a_cons (e_str (by decide +kernel)) (a_cons (e_str (by decide +kernel)) (a_cons (e_str (by decide +kernel)) (a_cons (e_str (by decide +kernel)) (a_cons (e_str (by decide +kernel)) (a_cons (e_str (by decide +kernel)) (a_cons (e_str (by decide +kernel)) (a_nil)))))))))))
      (ss_one (s_ret (e_call C__law_put hr (by decide) pass_0 (a_cons (e_var 2) (a_cons (e_int) (a_cons (e_idx (e_var 7) (e_call C__law_take hr (by decide) pass_0 (a_cons (e_var 0) (a_cons (e_int) (a_nil))) (hn := as_cons (as_cons (as_nil rfl))))) (a_nil)))) (hn := as_cons (as_cons (as_cons (as_nil rfl)))))))) (ss_nil))
      (ss_cons (s_set 8 sc__law_spoil_deed.nd (e_idx (e_var 2) (e_var 4)))
      (ss_cons (s_if (t_w (t_and (t_cmp (o_eq hr) (e_var 5) (e_int)) (t_and1 (t_val (e_isi .tuple T.n_isinstance T.n_tuple (by decide +kernel) (e_var 8)))))) (ss_one (s_ret (e_call C__law_put hr (by decide) pass_0 (a_cons (e_var 2) (a_cons (e_var 4) (a_cons (e_call C__law_put hr (by decide) pass_0 (a_cons (e_var 8) (a_cons (e_call C__law_take hr (by decide) pass_0 (a_cons (e_var 0) (a_cons (e_int) (a_nil))) (hn := as_cons (as_cons (as_nil rfl)))) (a_cons (e_var 6) (a_nil)))) (hn := as_cons (as_cons (as_cons (as_nil rfl))))) (a_nil)))) (hn := as_cons (as_cons (as_cons (as_nil rfl))))))) (ss_nil))
      (ss_cons (s_if (t_w (t_and (t_cmp (o_eq hr) (e_var 5) (e_int)) (t_and1 (t_val (e_isi .str T.n_isinstance T.n_str (by decide +kernel) (e_var 8)))))) (ss_cons (s_set 9 sc__law_spoil_deed.nd (e_call C__law_take hr (by decide) pass_0 (a_cons (e_var 0) (a_cons (e_op o_add (e_b1 (c_len) T.n_len (by decide +kernel) (e_var 8)) (e_int)) (a_nil))) (hn := as_cons (as_cons (as_nil rfl)))))
      (ss_one (s_ret (e_call C__law_put hr (by decide) pass_0 (a_cons (e_var 2) (a_cons (e_var 4) (a_cons (e_op o_add (e_op o_add (e_sl (e_var 8) oo_none (oo_some (e_var 9))) (e_idx (e_str (by decide +kernel)) (e_call C__law_take hr (by decide) pass_0 (a_cons (e_var 0) (a_cons (e_int) (a_nil))) (hn := as_cons (as_cons (as_nil rfl)))))) (e_sl (e_var 8) (oo_some (e_op o_add (e_var 9) (e_int))) oo_none)) (a_nil)))) (hn := as_cons (as_cons (as_cons (as_nil rfl)))))))) (ss_nil))
      (ss_cons (s_if (t_w (t_and (t_cmp (o_eq hr) (e_var 5) (e_int)) (t_and1 (t_val (e_isi .str T.n_isinstance T.n_str (by decide +kernel) (e_var 8)))))) (ss_one (s_ret (e_call C__law_put hr (by decide) pass_0 (a_cons (e_var 2) (a_cons (e_var 4) (a_cons (e_sl (e_op o_add (e_var 8) (e_op o_mul (e_str (by decide +kernel)) (e_int))) oo_none (oo_some (e_op o_add (e_int) (e_call C__law_take hr (by decide) pass_0 (a_cons (e_var 0) (a_cons (e_int) (a_nil))) (hn := as_cons (as_cons (as_nil rfl))))))) (a_nil)))) (hn := as_cons (as_cons (as_cons (as_nil rfl))))))) (ss_nil))
      (ss_one (s_ret (e_call C__law_put hr (by decide) pass_0 (a_cons (e_var 2) (a_cons (e_var 4) (a_cons (e_var 6) (a_nil)))) (hn := as_cons (as_cons (as_cons (as_nil rfl))))))))))))))))))
theorem sc__law_spoil : FnScope N__law_spoil P__law_spoil (defScope s__law_spoil) := ⟨rfl, rfl, rfl, by decide +kernel, rfl, by decide +kernel, by decide +kernel⟩
theorem ok__law_spoil {a : Addr} {fd : FuncData} (T : Txt mg) (Fd : Fn K "_law_spoil" s__law_spoil a fd) (hm : mg "_law_spoil" = some (.ref a)) (C__law_take : Cal P w K mg base CX0 1 "_law_take" 2 f__law_take) (C__law_put : Cal P w K mg base CX0 1 "_law_put" 3 f__law_put) (C__law_odd : Cal P w K mg base CX0 2 "_law_odd" 2 f__law_odd) (C__law_spoil_deed : Cal P w K mg base CX0 3 "_law_spoil_deed" 3 f__law_spoil_deed) : Cal P w K mg base CX0 4 "_law_spoil" 3 f__law_spoil := by
  refine ⟨a, fd, P__law_spoil, Fd.ok (CX := CX0) (k := 3) sc__law_spoil (sp_len rfl) fun cdv A outer s H vs Q E hr h => ⟨_, PSs.nox ?_, body_read (b := b__law_spoil) rfl h⟩, hm, Fd.kp, Fd.bindsN (fun _ _ _ _ _ _ us hl => match us, hl with | [_, _, _], _ => rfl)⟩
  exact ss_cons (s_set 3 sc__law_spoil.nd (e_b1 (c_len) T.n_len (by decide +kernel) (e_idx (e_var 1) (e_int))))
      (ss_cons (s_set 4 sc__law_spoil.nd (e_idx (e_var 2) (e_int)))
      (ss_cons (s_set 5 sc__law_spoil.nd (e_call C__law_take hr (by decide) pass_0 (a_cons (e_var 0) (a_cons (e_int) (a_nil))) (hn := as_cons (as_cons (as_nil rfl)))))
      (ss_cons (s_set 6 sc__law_spoil.nd (e_call C__law_odd hr (by decide) pass_0 (a_cons (e_var 0) (a_cons (e_var 3) (a_nil))) (hn := as_cons (as_cons (as_nil rfl)))))
      (ss_cons (s_if (t_cmp (o_eq hr) (e_var 5) (e_int)) (ss_one (s_ret (e_t1 (c_list) T.n_list (by decide +kernel) (e_var 2)))) (ss_nil))
      (ss_cons (s_if (t_cmp (o_eq hr) (e_var 5) (e_int)) (ss_one (s_ret (e_sl (e_var 2) oo_none (oo_some (e_int))))) (ss_nil))
      (ss_cons (s_if (t_cmp (o_eq hr) (e_var 5) (e_int)) (ss_one (s_ret (e_op o_add (e_var 2) (e_tup (a_cons (e_var 6) (a_nil)))))) (ss_nil))
      (ss_cons (s_if (t_cmp o_lt (e_var 5) (e_int)) (ss_one (s_ret (e_call C__law_put hr (by decide) pass_0 (a_cons (e_var 2) (a_cons (e_call C__law_take hr (by decide) pass_0 (a_cons (e_var 0) (a_cons (e_int) (a_nil))) (hn := as_cons (as_cons (as_nil rfl)))) (a_cons (e_var 6) (a_nil)))) (hn := as_cons (as_cons (as_cons (as_nil rfl))))))) (ss_nil))
      (ss_cons (s_if (t_cmp (o_eq hr) (e_var 5) (e_int)) (ss_one (s_ret (e_call C__law_put hr (by decide) pass_0 (a_cons (e_var 2) (a_cons (e_int) (a_cons (e_idx (e_lst (a_cons (e_var 3) (a_cons (e_un o_neg (e_int)) (a_cons (e_int) (a_cons (e_op o_sub (e_var 3) (e_int)) (a_nil)))))) (e_call C__law_take hr (by decide) pass_0 (a_cons (e_var 0) (a_cons (e_int) (a_nil))) (hn := as_cons (as_cons (as_nil rfl))))) (a_nil)))) (hn := as_cons (as_cons (as_cons (as_nil rfl))))))) (ss_nil))
      (ss_cons (s_if (t_cmp (o_eq hr) (e_var 5) (e_int)) (ss_one (s_ret (e_call C__law_put hr (by decide) pass_0 (a_cons (e_var 2) (a_cons (e_int) (a_cons (e_t1 (c_list) T.n_list (by decide +kernel) (e_var 4)) (a_nil)))) (hn := as_cons (as_cons (as_cons (as_nil rfl))))))) (ss_nil))
      (ss_cons (s_if (t_cmp (o_eq hr) (e_var 5) (e_int)) (ss_one (s_ret (e_call C__law_put hr (by decide) pass_0 (a_cons (e_var 2) (a_cons (e_int) (a_cons (e_sl (e_var 4) oo_none (oo_some (e_op o_sub (e_var 3) (e_int)))) (a_nil)))) (hn := as_cons (as_cons (as_cons (as_nil rfl))))))) (ss_nil))
      (ss_cons (s_if (t_cmp (o_eq hr) (e_var 5) (e_int)) (ss_one (s_ret (e_call C__law_put hr (by decide) pass_0 (a_cons (e_var 2) (a_cons (e_int) (a_cons (e_op o_add (e_var 4) (e_tup (a_cons (e_int) (a_nil)))) (a_nil)))) (hn := as_cons (as_cons (as_cons (as_nil rfl))))))) (ss_nil))
      (ss_cons (s_if (t_cmp o_lt (e_var 5) (e_int)) (ss_one (s_ret (e_call C__law_put hr (by decide) pass_0 (a_cons (e_var 2) (a_cons (e_int) (a_cons (e_call C__law_put hr (by decide) pass_0 (a_cons (e_var 4) (a_cons (e_call C__law_take hr (by decide) pass_0 (a_cons (e_var 0) (a_cons (e_var 3) (a_nil))) (hn := as_cons (as_cons (as_nil rfl)))) (a_cons (e_var 6) (a_nil)))) (hn := as_cons (as_cons (as_cons (as_nil rfl))))) (a_nil)))) (hn := as_cons (as_cons (as_cons (as_nil rfl))))))) (ss_nil))
      (ss_one (s_ret (e_call C__law_put hr (by decide) pass_0 (a_cons (e_var 2) (a_cons (e_int) (a_cons (e_call C__law_spoil_deed hr (by decide) pass_0 (a_cons (e_var 0) (a_cons (e_var 1) (a_cons (e_idx (e_var 2) (e_int)) (a_nil)))) (hn := as_cons (as_cons (as_cons (as_nil rfl))))) (a_nil)))) (hn := as_cons (as_cons (as_cons (as_nil rfl)))))))))))))))))))
theorem sc__law_parts : FnScope N__law_parts P__law_parts (defScope s__law_parts) := ⟨rfl, rfl, rfl, by decide +kernel, rfl, by decide +kernel, by decide +kernel⟩
theorem ok__law_parts {a : Addr} {fd : FuncData} (T : Txt mg) (Fd : Fn K "_law_parts" s__law_parts a fd) (hm : mg "_law_parts" = some (.ref a)) : Cal P w K mg base CX0 1 "_law_parts" 1 f__law_parts := by
  refine ⟨a, fd, P__law_parts, Fd.ok (CX := CX0) (k := 0) sc__law_parts (sp_len rfl) fun cdv A outer s H vs Q E hr h => ⟨_, PSs.nox ?_, body_read (b := b__law_parts) rfl h⟩, hm, Fd.kp, Fd.bindsN (fun _ _ _ _ _ _ us hl => match us, hl with | [_], _ => rfl)⟩
  exact ss_cons (s_set 1 sc__law_parts.nd (e_lst (a_cons (e_var 0) (a_nil))))
      (ss_cons (s_if (t_w (t_or (t_val (e_isi .tuple T.n_isinstance T.n_tuple (by decide +kernel) (e_var 0))) (t_or1 (t_val (e_isi .list T.n_isinstance T.n_list (by decide +kernel) (e_var 0)))))) (ss_one (s_for (own := [2]) PassesOwn.never rfl (i_any (e_var 0)) (g_name (own := [2]) 2 sc__law_parts.nd) (ss_cons (s_expr (e_app (e_var 1) (e_var 2)))
      (ss_one (s_if (t_w (t_or (t_val (e_isi .tuple T.n_isinstance T.n_tuple (by decide +kernel) (e_var 2))) (t_or1 (t_val (e_isi .list T.n_isinstance T.n_list (by decide +kernel) (e_var 2)))))) (ss_one (s_for (own := [3]) PassesOwn.never rfl (i_any (e_var 2)) (g_name (own := [3]) 3 sc__law_parts.nd) (ss_one (s_expr (e_app (e_var 1) (e_var 3)))))) (ss_nil)))))) (ss_nil))
      (ss_one (s_ret (e_var 1))))
theorem sc__law_judged : FnScope N__law_judged P__law_judged (defScope s__law_judged) := ⟨rfl, rfl, rfl, by decide +kernel, rfl, by decide +kernel, by decide +kernel⟩
theorem ok__law_judged {a : Addr} {fd : FuncData} (T : Txt mg) (Fd : Fn K "_law_judged" s__law_judged a fd) (hm : mg "_law_judged" = some (.ref a)) (C_is_text : Cal P w K mg base CX0 1 "is_text" 1 f_is_text) (C_is_name : Cal P w K mg base CX0 3 "is_name" 2 f_is_name) (C_has_shape : Cal P w K mg base CX0 6 "has_shape" 2 f_has_shape) (C__law_same : Cal P w K mg base CX0 9 "_law_same" 2 (f__law_same 8)) (C__law_copy : Cal P w K mg base CX0 9 "_law_copy" 1 (f__law_copy 8)) (C__law_is_text : Cal P w K mg base CX0 2 "_law_is_text" 1 f__law_is_text) (C__law_is_name : Cal P w K mg base CX0 2 "_law_is_name" 2 f__law_is_name) (C__law_shape : Cal P w K mg base CX0 4 "_law_shape" 2 f__law_shape) : Cal P w K mg base CX0 10 "_law_judged" 2 f__law_judged := by
  refine ⟨a, fd, P__law_judged, Fd.ok (CX := CX0) (k := 9) sc__law_judged (sp_len rfl) fun cdv A outer s H vs Q E hr h => ⟨_, PSs.nox ?_, body_read (b := b__law_judged) rfl h⟩, hm, Fd.kp, Fd.bindsN (fun _ _ _ _ _ _ us hl => match us, hl with | [_, _], _ => rfl)⟩
  exact ss_cons (s_set 2 sc__law_judged.nd (e_call C__law_copy hr (by decide) pass_0 (a_cons (e_var 1) (a_nil)) (hn := as_cons (as_nil rfl))))
      (ss_cons (s_if (t_not (t_val (e_call C__law_same hr (by decide) pass_0 (a_cons (e_call C_has_shape hr (by decide) pass_0 (a_cons (e_var 0) (a_cons (e_var 1) (a_nil))) (hn := as_cons (as_cons (as_nil rfl)))) (a_cons (e_call C__law_shape hr (by decide) pass_0 (a_cons (e_var 0) (a_cons (e_var 1) (a_nil))) (hn := as_cons (as_cons (as_nil rfl)))) (a_nil))) (hn := as_cons (as_cons (as_nil rfl)))))) (ss_one (s_ret (e_bl))) (ss_nil))
      (ss_cons (s_if (t_not (t_val (e_call C__law_same hr (by decide) pass_0 (a_cons (e_call C_is_name hr (by decide) pass_0 (a_cons (e_var 0) (a_cons (e_var 1) (a_nil))) (hn := as_cons (as_cons (as_nil rfl)))) (a_cons (e_call C__law_is_name hr (by decide) pass_0 (a_cons (e_var 0) (a_cons (e_var 1) (a_nil))) (hn := as_cons (as_cons (as_nil rfl)))) (a_nil))) (hn := as_cons (as_cons (as_nil rfl)))))) (ss_one (s_ret (e_bl))) (ss_nil))
      (ss_cons (s_if (t_not (t_val (e_call C__law_same hr (by decide) pass_0 (a_cons (e_call C_is_text hr (by decide) pass_0 (a_cons (e_var 1) (a_nil)) (hn := as_cons (as_nil rfl))) (a_cons (e_call C__law_is_text hr (by decide) pass_0 (a_cons (e_var 1) (a_nil)) (hn := as_cons (as_nil rfl))) (a_nil))) (hn := as_cons (as_cons (as_nil rfl)))))) (ss_one (s_ret (e_bl))) (ss_nil))
      (ss_one (s_ret (e_call C__law_same hr (by decide) pass_0 (a_cons (e_var 1) (a_cons (e_var 2) (a_nil))) (hn := as_cons (as_cons (as_nil rfl)))))))))
theorem sc__law_read : FnScope N__law_read P__law_read (defScope s__law_read) := ⟨rfl, rfl, rfl, by decide +kernel, rfl, by decide +kernel, by decide +kernel⟩
theorem ok__law_read {a : Addr} {fd : FuncData} (T : Txt mg) (Fd : Fn K "_law_read" s__law_read a fd) (hm : mg "_law_read" = some (.ref a)) (C_name_of : Cal P w K mg base CX0 1 "name_of" 1 f_name_of) (C_message_of : Cal P w K mg base CX0 2 "message_of" 1 f_message_of) (C_has_seen : Cal P w K mg base CX0 1 "has_seen" 2 f_has_seen) (C__law_same : Cal P w K mg base CX0 9 "_law_same" 2 (f__law_same 8)) : Cal P w K mg base CX0 10 "_law_read" 2 f__law_read := by
  refine ⟨a, fd, P__law_read, Fd.ok (CX := CX0) (k := 9) sc__law_read (sp_len rfl) fun cdv A outer s H vs Q E hr h => ⟨_, PSs.nox ?_, body_read (b := b__law_read) rfl h⟩, hm, Fd.kp, Fd.bindsN (fun _ _ _ _ _ _ us hl => match us, hl with | [_, _], _ => rfl)⟩
  exact ss_cons (s_set 2 sc__law_read.nd (e_op o_add (e_op o_add (e_b1 (c_maxL rfl) T.n_max (by decide +kernel) (e_idx (e_var 1) (e_int))) (e_int)) (e_idx (e_var 1) (e_int))))
      (ss_cons (s_set 3 sc__law_read.nd (e_tup (a_cons (e_var 2) (a_cons (e_idx (e_var 1) (e_int)) (a_cons (e_idx (e_var 1) (e_int)) (a_cons (e_idx (e_var 1) (e_int)) (a_nil)))))))
      (ss_cons (s_set 4 sc__law_read.nd (e_idx (e_var 1) (e_int)))
      (ss_cons (s_set 5 sc__law_read.nd (e_non))
      (ss_cons (s_if (t_cmp (o_eq hr) (e_idx (e_var 4) (e_int)) (e_str (by decide +kernel))) (ss_one (s_set 5 sc__law_read.nd (e_tup (a_cons (e_var 2) (a_cons (e_idx (e_var 1) (e_int)) (a_nil)))))) (ss_nil))
      (ss_cons (s_if (t_w (t_or (t_cmp (o_eq hr) (e_idx (e_var 4) (e_int)) (e_str (by decide +kernel))) (t_or1 (t_cmp (o_eq hr) (e_idx (e_var 4) (e_int)) (e_str (by decide +kernel)))))) (ss_one (s_set 5 sc__law_read.nd (e_idx (e_var 4) (e_int)))) (ss_nil))
      (ss_cons (s_if (t_w (t_or (t_not (t_val (e_call C__law_same hr (by decide) pass_0 (a_cons (e_call C_name_of hr (by decide) pass_0 (a_cons (e_var 3) (a_nil)) (hn := as_cons (as_nil rfl))) (a_cons (e_tup (a_cons (e_var 2) (a_cons (e_idx (e_var 1) (e_int)) (a_nil)))) (a_nil))) (hn := as_cons (as_cons (as_nil rfl)))))) (t_or1 (t_not (t_val (e_call C__law_same hr (by decide) pass_0 (a_cons (e_call C_message_of hr (by decide) pass_0 (a_cons (e_var 3) (a_nil)) (hn := as_cons (as_nil rfl))) (a_cons (e_var 5) (a_nil))) (hn := as_cons (as_cons (as_nil rfl))))))))) (ss_one (s_ret (e_bl))) (ss_nil))
      (ss_cons (s_for (own := [6]) PassesOwn.never rfl (i_range1 T.n_range (e_b1 (c_len) T.n_len (by decide +kernel) (e_idx (e_var 1) (e_int)))) (g_name (own := [6]) 6 sc__law_read.nd) (ss_cons (s_set 7 sc__law_read.nd (e_idx (e_idx (e_var 1) (e_int)) (e_var 6)))
      (ss_one (s_for (own := [8]) PassesOwn.never rfl (i_any (e_lst (a_cons (e_int) (a_cons (e_op o_sub (e_var 7) (e_int)) (a_cons (e_var 7) (a_cons (e_op o_add (e_var 7) (e_int)) (a_cons (e_var 2) (a_nil)))))))) (g_name (own := [8]) 8 sc__law_read.nd) (ss_one (s_if (t_w (t_and (t_cmp o_ge (e_var 8) (e_int)) (t_and1 (t_not (t_val (e_call C__law_same hr (by decide) pass_0 (a_cons (e_call C_has_seen hr (by decide) pass_0 (a_cons (e_var 3) (a_cons (e_tup (a_cons (e_var 8) (a_cons (e_var 6) (a_nil)))) (a_nil))) (hn := as_cons (as_cons (as_nil rfl)))) (a_cons (e_cmp o_le (e_var 8) (e_var 7)) (a_nil))) (hn := as_cons (as_cons (as_nil rfl))))))))) (ss_one (s_ret (e_bl))) (ss_nil)))))))
      (ss_one (s_ret (e_bl))))))))))
theorem sc_law : FnScope N_law P_law (defScope s_law) := ⟨rfl, rfl, rfl, by decide +kernel, rfl, by decide +kernel, by decide +kernel⟩
theorem okF_law {a : Addr} {fd : FuncData} (T : Txt mg) (Fd : Fn K "law" s_law a fd) (C__law_source : Cal P w K mg base CX0 2 "_law_source" 2 f__law_source) (C__law_take : Cal P w K mg base CX0 1 "_law_take" 2 f__law_take) (C__law_house : Cal P w K mg base CX0 3 "_law_house" 1 f__law_house) (C__law_text : Cal P w K mg base CX0 2 "_law_text" 1 f__law_text) (C__law_put : Cal P w K mg base CX0 1 "_law_put" 3 f__law_put) (C__law_odd : Cal P w K mg base CX0 2 "_law_odd" 2 f__law_odd) (C__law_entry : Cal P w K mg base CX0 4 "_law_entry" 2 f__law_entry) (C__law_spoil_deed : Cal P w K mg base CX0 3 "_law_spoil_deed" 3 f__law_spoil_deed) (C__law_spoil : Cal P w K mg base CX0 4 "_law_spoil" 3 f__law_spoil) (C__law_parts : Cal P w K mg base CX0 1 "_law_parts" 1 f__law_parts) (C__law_judged : Cal P w K mg base CX0 10 "_law_judged" 2 f__law_judged) (C__law_read : Cal P w K mg base CX0 10 "_law_read" 2 f__law_read) : FnOk P w K mg base CX0 11 a fd P_law (spF K mg 1 f_law) := by
  refine Fd.ok (CX := CX0) (k := 10) sc_law (sp_len rfl) fun cdv A outer s H vs Q E hr h => ⟨_, PSs.nox ?_, body_read (b := b_law) rfl h⟩
  exact ss_cons (s_set 1 sc_law.nd (e_call C__law_house hr (by decide) pass_0 (a_cons (e_call C__law_source hr (by decide) pass_0 (a_cons (e_var 0) (a_cons (e_int) (a_nil))) (hn := as_cons (as_cons (as_nil rfl)))) (a_nil)) (hn := as_cons (as_nil rfl))))
      (ss_cons (s_set 2 sc_law.nd (e_call C__law_entry hr (by decide) pass_0 (a_cons (e_call C__law_source hr (by decide) pass_0 (a_cons (e_var 0) (a_cons (e_int) (a_nil))) (hn := as_cons (as_cons (as_nil rfl)))) (a_cons (e_var 1) (a_nil))) (hn := as_cons (as_cons (as_nil rfl)))))
      (ss_cons (s_set 3 sc_law.nd (e_call C__law_source hr (by decide) pass_0 (a_cons (e_var 0) (a_cons (e_int) (a_nil))) (hn := as_cons (as_cons (as_nil rfl)))))
      (ss_cons (s_set 4 sc_law.nd (e_var 2))
      (ss_cons (s_set 5 sc_law.nd (e_call C__law_take hr (by decide) pass_0 (a_cons (e_var 3) (a_cons (e_int) (a_nil))) (hn := as_cons (as_cons (as_nil rfl)))))
      (ss_cons (s_if (t_cmp o_gt (e_var 5) (e_int)) (ss_one (s_set 4 sc_law.nd (e_call C__law_spoil hr (by decide) pass_0 (a_cons (e_var 3) (a_cons (e_var 1) (a_cons (e_var 2) (a_nil)))) (hn := as_cons (as_cons (as_cons (as_nil rfl))))))) (ss_nil))
      (ss_cons (s_if (t_w (t_and (t_cmp o_gt (e_var 5) (e_int)) (t_and (t_val (e_isi .tuple T.n_isinstance T.n_tuple (by decide +kernel) (e_var 4))) (t_and1 (t_cmp (o_eq hr) (e_b1 (c_len) T.n_len (by decide +kernel) (e_var 4)) (e_int)))))) (ss_one (s_if (t_w (t_and (t_val (e_isi .tuple T.n_isinstance T.n_tuple (by decide +kernel) (e_idx (e_var 4) (e_int)))) (t_and (t_cmp o_gt (e_b1 (c_len) T.n_len (by decide +kernel) (e_idx (e_var 4) (e_int))) (e_int)) (t_and (t_val (e_isi .tuple T.n_isinstance T.n_tuple (by decide +kernel) (e_idx (e_var 4) (e_int)))) (t_and1 (t_cmp o_gt (e_b1 (c_len) T.n_len (by decide +kernel) (e_idx (e_var 4) (e_int))) (e_int))))))) (ss_one (s_set 4 sc_law.nd (e_call C__law_put hr (by decide) pass_0 (a_cons (e_var 4) (a_cons (e_int) (a_cons (e_call C__law_spoil_deed hr (by decide) pass_0 (a_cons (e_var 3) (a_cons (e_var 1) (a_cons (e_idx (e_var 4) (e_int)) (a_nil)))) (hn := as_cons (as_cons (as_cons (as_nil rfl))))) (a_nil)))) (hn := as_cons (as_cons (as_cons (as_nil rfl))))))) (ss_nil))) (ss_nil))
      (ss_cons (s_for (own := [6]) PassesOwn.never rfl (i_any (e_op o_add (e_call C__law_parts hr (by decide) pass_0 (a_cons (e_var 4) (a_nil)) (hn := as_cons (as_nil rfl))) (e_lst (a_cons (e_call C__law_odd hr (by decide) pass_0 (a_cons (e_var 3) (a_cons (e_b1 (c_len) T.n_len (by decide +kernel) (e_idx (e_var 1) (e_int))) (a_nil))) (hn := as_cons (as_cons (as_nil rfl)))) (a_cons (e_op o_add (e_call C__law_text hr (by decide) pass_0 (a_cons (e_var 3) (a_nil)) (hn := as_cons (as_nil rfl))) (e_str (by decide +kernel))) (a_nil)))))) (g_name (own := [6]) 6 sc_law.nd) (ss_one (s_if (t_not (t_val (e_call C__law_judged hr (by decide) pass_0 (a_cons (e_var 1) (a_cons (e_var 6) (a_nil))) (hn := as_cons (as_cons (as_nil rfl)))))) (ss_one (s_ret (e_bl))) (ss_nil))))
      (ss_one (s_ret (e_and (e_call C__law_judged hr (by decide) pass_0 (a_cons (e_var 1) (a_cons (e_var 2) (a_nil))) (hn := as_cons (as_cons (as_nil rfl)))) (e_one (e_call C__law_read hr (by decide) pass_0 (a_cons (e_var 1) (a_cons (e_var 2) (a_nil))) (hn := as_cons (as_cons (as_nil rfl)))))))))))))))
end
end K02
end

section
set_option Elab.async false
set_option linter.all false
set_option maxRecDepth 100000
set_option maxHeartbeats 0
namespace K02
open Py PySem L2
def d_room_names : He.DefD := ⟨("room_names", none), "room_names", "room_names", defArgs s_room_names, defBody s_room_names, defScope s_room_names, [], []⟩
def d_is_integer : He.DefD := ⟨("is_integer", none), "is_integer", "is_integer", defArgs s_is_integer, defBody s_is_integer, defScope s_is_integer, [], []⟩
def d_is_device : He.DefD := ⟨("is_device", none), "is_device", "is_device", defArgs s_is_device, defBody s_is_device, defScope s_is_device, [], []⟩
def d_is_text : He.DefD := ⟨("is_text", none), "is_text", "is_text", defArgs s_is_text, defBody s_is_text, defScope s_is_text, [], []⟩
def d_is_name : He.DefD := ⟨("is_name", none), "is_name", "is_name", defArgs s_is_name, defBody s_is_name, defScope s_is_name, [], []⟩
def d_is_about : He.DefD := ⟨("is_about", none), "is_about", "is_about", defArgs s_is_about, defBody s_is_about, defScope s_is_about, [], []⟩
def d_is_times : He.DefD := ⟨("is_times", none), "is_times", "is_times", defArgs s_is_times, defBody s_is_times, defScope s_is_times, [], []⟩
def d_is_deed : He.DefD := ⟨("is_deed", none), "is_deed", "is_deed", defArgs s_is_deed, defBody s_is_deed, defScope s_is_deed, [], []⟩
def d_has_shape : He.DefD := ⟨("has_shape", none), "has_shape", "has_shape", defArgs s_has_shape, defBody s_has_shape, defScope s_has_shape, [], []⟩
def d_name_of : He.DefD := ⟨("name_of", none), "name_of", "name_of", defArgs s_name_of, defBody s_name_of, defScope s_name_of, [], []⟩
def d_message_of : He.DefD := ⟨("message_of", none), "message_of", "message_of", defArgs s_message_of, defBody s_message_of, defScope s_message_of, [], []⟩
def d_has_seen : He.DefD := ⟨("has_seen", none), "has_seen", "has_seen", defArgs s_has_seen, defBody s_has_seen, defScope s_has_seen, [], []⟩
def d__law_seed : He.DefD := ⟨("_law_seed", none), "_law_seed", "_law_seed", defArgs s__law_seed, defBody s__law_seed, defScope s__law_seed, [], []⟩
def d__law_source : He.DefD := ⟨("_law_source", none), "_law_source", "_law_source", defArgs s__law_source, defBody s__law_source, defScope s__law_source, [], []⟩
def d__law_take : He.DefD := ⟨("_law_take", none), "_law_take", "_law_take", defArgs s__law_take, defBody s__law_take, defScope s__law_take, [], []⟩
def d__law_word : He.DefD := ⟨("_law_word", none), "_law_word", "_law_word", defArgs s__law_word, defBody s__law_word, defScope s__law_word, [], []⟩
def d__law_house : He.DefD := ⟨("_law_house", none), "_law_house", "_law_house", defArgs s__law_house, defBody s__law_house, defScope s__law_house, [], []⟩
def d__law_same : He.DefD := ⟨("_law_same", none), "_law_same", "_law_same", defArgs s__law_same, defBody s__law_same, defScope s__law_same, [], []⟩
def d__law_copy : He.DefD := ⟨("_law_copy", none), "_law_copy", "_law_copy", defArgs s__law_copy, defBody s__law_copy, defScope s__law_copy, [], []⟩
def d__law_signs : He.DefD := ⟨("_law_signs", none), "_law_signs", "_law_signs", defArgs s__law_signs, defBody s__law_signs, defScope s__law_signs, [], []⟩
def d__law_text : He.DefD := ⟨("_law_text", none), "_law_text", "_law_text", defArgs s__law_text, defBody s__law_text, defScope s__law_text, [], []⟩
def d__law_is_int : He.DefD := ⟨("_law_is_int", none), "_law_is_int", "_law_is_int", defArgs s__law_is_int, defBody s__law_is_int, defScope s__law_is_int, [], []⟩
def d__law_is_text : He.DefD := ⟨("_law_is_text", none), "_law_is_text", "_law_is_text", defArgs s__law_is_text, defBody s__law_is_text, defScope s__law_is_text, [], []⟩
def d__law_is_name : He.DefD := ⟨("_law_is_name", none), "_law_is_name", "_law_is_name", defArgs s__law_is_name, defBody s__law_is_name, defScope s__law_is_name, [], []⟩
def d__law_is_deed : He.DefD := ⟨("_law_is_deed", none), "_law_is_deed", "_law_is_deed", defArgs s__law_is_deed, defBody s__law_is_deed, defScope s__law_is_deed, [], []⟩
def d__law_shape : He.DefD := ⟨("_law_shape", none), "_law_shape", "_law_shape", defArgs s__law_shape, defBody s__law_shape, defScope s__law_shape, [], []⟩
def d__law_put : He.DefD := ⟨("_law_put", none), "_law_put", "_law_put", defArgs s__law_put, defBody s__law_put, defScope s__law_put, [], []⟩
def d__law_odd : He.DefD := ⟨("_law_odd", none), "_law_odd", "_law_odd", defArgs s__law_odd, defBody s__law_odd, defScope s__law_odd, [], []⟩
def d__law_name : He.DefD := ⟨("_law_name", none), "_law_name", "_law_name", defArgs s__law_name, defBody s__law_name, defScope s__law_name, [], []⟩
def d__law_deed : He.DefD := ⟨("_law_deed", none), "_law_deed", "_law_deed", defArgs s__law_deed, defBody s__law_deed, defScope s__law_deed, [], []⟩
def d__law_entry : He.DefD := ⟨("_law_entry", none), "_law_entry", "_law_entry", defArgs s__law_entry, defBody s__law_entry, defScope s__law_entry, [], []⟩
def d__law_spoil_deed : He.DefD := ⟨("_law_spoil_deed", none), "_law_spoil_deed", "_law_spoil_deed", defArgs s__law_spoil_deed, defBody s__law_spoil_deed, defScope s__law_spoil_deed, [], []⟩
def d__law_spoil : He.DefD := ⟨("_law_spoil", none), "_law_spoil", "_law_spoil", defArgs s__law_spoil, defBody s__law_spoil, defScope s__law_spoil, [], []⟩
def d__law_parts : He.DefD := ⟨("_law_parts", none), "_law_parts", "_law_parts", defArgs s__law_parts, defBody s__law_parts, defScope s__law_parts, [], []⟩
def d__law_judged : He.DefD := ⟨("_law_judged", none), "_law_judged", "_law_judged", defArgs s__law_judged, defBody s__law_judged, defScope s__law_judged, [], []⟩
def d__law_read : He.DefD := ⟨("_law_read", none), "_law_read", "_law_read", defArgs s__law_read, defBody s__law_read, defScope s__law_read, [], []⟩
def d_law : He.DefD := ⟨("law", none), "law", "law", defArgs s_law, defBody s_law, defScope s_law, [], []⟩
def fnl : List He.DefD := [d_room_names, d_is_integer, d_is_device, d_is_text, d_is_name, d_is_about, d_is_times, d_is_deed, d_has_shape, d_name_of, d_message_of, d_has_seen, d__law_seed, d__law_source, d__law_take, d__law_word, d__law_house, d__law_same, d__law_copy, d__law_signs, d__law_text, d__law_is_int, d__law_is_text, d__law_is_name, d__law_is_deed, d__law_shape, d__law_put, d__law_odd, d__law_name, d__law_deed, d__law_entry, d__law_spoil_deed, d__law_spoil, d__law_parts, d__law_judged, d__law_read, d_law]
def fal : List He.Fa := [.glo "room_names", .glo "is_integer", .glo "is_device", .glo "is_text", .glo "is_name", .glo "is_about", .glo "is_times", .glo "is_deed", .glo "has_shape", .glo "name_of", .glo "message_of", .glo "has_seen", .glo "_law_seed", .glo "_law_source", .glo "_law_take", .glo "_law_word", .glo "_law_house", .glo "_law_same", .glo "_law_copy", .glo "_law_signs", .glo "_law_text", .glo "_law_is_int", .glo "_law_is_text", .glo "_law_is_name", .glo "_law_is_deed", .glo "_law_shape", .glo "_law_put", .glo "_law_odd", .glo "_law_name", .glo "_law_deed", .glo "_law_entry", .glo "_law_spoil_deed", .glo "_law_spoil", .glo "_law_parts", .glo "_law_judged", .glo "_law_read", .glo "law", .free "bool", .free "int", .free "isinstance", .free "len", .free "list", .free "max", .free "min", .free "ord", .free "range", .free "str", .free "tuple", .int "MOST_CHARS" 60, .int "PERCENT" 37]
abbrev R : PySem.W.OpenRow := PySem.W.OpenLaw.row PySem.Challenge.rw_hearsay_k02_shapes
abbrev hk : PySem.W.Hook := He.hookD 4 fal fnl
def ob (s : PySem.W.SharedT) : He.AlD := He.obsDG 4 fal fnl (HandSHeadRun.getT s)
theorem ob_eq (s : PySem.W.SharedT) : ob s = hk.obs s.abs := He.obsDG_eq (HandSHeadRun.getT_eq s)
def lo0 : List PySem.Str := [(PySem.Str.ofString "room_names"), (PySem.Str.ofString "MOST_CHARS"), (PySem.Str.ofString "PERCENT"), (PySem.Str.ofString "is_integer"), (PySem.Str.ofString "is_device"), (PySem.Str.ofString "is_text"), (PySem.Str.ofString "is_name"), (PySem.Str.ofString "is_about"), (PySem.Str.ofString "is_times"), (PySem.Str.ofString "is_deed"), (PySem.Str.ofString "has_shape"), (PySem.Str.ofString "name_of"), (PySem.Str.ofString "message_of"), (PySem.Str.ofString "has_seen"), (PySem.Str.ofString "_law_seed"), (PySem.Str.ofString "_law_source"), (PySem.Str.ofString "_law_take"), (PySem.Str.ofString "_law_word"), (PySem.Str.ofString "_law_house"), (PySem.Str.ofString "_law_same"), (PySem.Str.ofString "_law_copy"), (PySem.Str.ofString "_law_signs"), (PySem.Str.ofString "_law_text"), (PySem.Str.ofString "_law_is_int"), (PySem.Str.ofString "_law_is_text"), (PySem.Str.ofString "_law_is_name"), (PySem.Str.ofString "_law_is_deed"), (PySem.Str.ofString "_law_shape"), (PySem.Str.ofString "_law_put"), (PySem.Str.ofString "_law_odd"), (PySem.Str.ofString "_law_name"), (PySem.Str.ofString "_law_deed"), (PySem.Str.ofString "_law_entry"), (PySem.Str.ofString "_law_spoil_deed"), (PySem.Str.ofString "_law_spoil"), (PySem.Str.ofString "_law_parts"), (PySem.Str.ofString "_law_judged"), (PySem.Str.ofString "_law_read")]
def loose : List PySem.Str := lo0
theorem run (w : World) : HandSHeadRun.RunEq R (PySem.W.view R.prog [41]) hk ob 1400 loose w := by
  intro os
  kernel_rfl
/-- all defs, from the facts -/
theorem all {P : Program} {w : World} {K : PySem.W.Frag} {h : Heap} {mg : Str → Option Value} {fa : Addr} (X : K.In h) (G : h.Ns mainGlobals mg) (hfa : mg ("law" : Str) = some (.ref fa)) (c : He.SaysD fal fnl K) :
    ∃ fd : FuncData, (∀ (s : Shared) (v : Value), BindsTo s fd ⟨[v], []⟩ [("script", v)]) ∧ ∀ base : Heap, K.In base → base.Ns mainGlobals mg → FnOk P w K mg base CX0 11 fa fd ["script"] (spF K mg 1 f_law) := by
  have T : Txt mg := ⟨He.free_ok X G (c.fact 37 rfl), He.free_ok X G (c.fact 38 rfl), He.free_ok X G (c.fact 39 rfl), He.free_ok X G (c.fact 40 rfl), He.free_ok X G (c.fact 41 rfl), He.free_ok X G (c.fact 42 rfl), He.free_ok X G (c.fact 43 rfl), He.free_ok X G (c.fact 44 rfl), He.free_ok X G (c.fact 45 rfl), He.free_ok X G (c.fact 46 rfl), He.free_ok X G (c.fact 47 rfl), He.int_ok X G (c.fact 48 rfl), He.int_ok X G (c.fact 49 rfl)⟩
  obtain ⟨fd_room_names, F_room_names⟩ := c.def_ 0 (d := d_room_names) rfl
  obtain ⟨fd_is_integer, F_is_integer⟩ := c.def_ 1 (d := d_is_integer) rfl
  obtain ⟨fd_is_device, F_is_device⟩ := c.def_ 2 (d := d_is_device) rfl
  obtain ⟨fd_is_text, F_is_text⟩ := c.def_ 3 (d := d_is_text) rfl
  obtain ⟨fd_is_name, F_is_name⟩ := c.def_ 4 (d := d_is_name) rfl
  obtain ⟨fd_is_about, F_is_about⟩ := c.def_ 5 (d := d_is_about) rfl
  obtain ⟨fd_is_times, F_is_times⟩ := c.def_ 6 (d := d_is_times) rfl
  obtain ⟨fd_is_deed, F_is_deed⟩ := c.def_ 7 (d := d_is_deed) rfl
  obtain ⟨fd_has_shape, F_has_shape⟩ := c.def_ 8 (d := d_has_shape) rfl
  obtain ⟨fd_name_of, F_name_of⟩ := c.def_ 9 (d := d_name_of) rfl
  obtain ⟨fd_message_of, F_message_of⟩ := c.def_ 10 (d := d_message_of) rfl
  obtain ⟨fd_has_seen, F_has_seen⟩ := c.def_ 11 (d := d_has_seen) rfl
  obtain ⟨fd__law_seed, F__law_seed⟩ := c.def_ 12 (d := d__law_seed) rfl
  obtain ⟨fd__law_source, F__law_source⟩ := c.def_ 13 (d := d__law_source) rfl
  obtain ⟨fd__law_take, F__law_take⟩ := c.def_ 14 (d := d__law_take) rfl
  obtain ⟨fd__law_word, F__law_word⟩ := c.def_ 15 (d := d__law_word) rfl
  obtain ⟨fd__law_house, F__law_house⟩ := c.def_ 16 (d := d__law_house) rfl
  obtain ⟨fd__law_same, F__law_same⟩ := c.def_ 17 (d := d__law_same) rfl
  obtain ⟨fd__law_copy, F__law_copy⟩ := c.def_ 18 (d := d__law_copy) rfl
  obtain ⟨fd__law_signs, F__law_signs⟩ := c.def_ 19 (d := d__law_signs) rfl
  obtain ⟨fd__law_text, F__law_text⟩ := c.def_ 20 (d := d__law_text) rfl
  obtain ⟨fd__law_is_int, F__law_is_int⟩ := c.def_ 21 (d := d__law_is_int) rfl
  obtain ⟨fd__law_is_text, F__law_is_text⟩ := c.def_ 22 (d := d__law_is_text) rfl
  obtain ⟨fd__law_is_name, F__law_is_name⟩ := c.def_ 23 (d := d__law_is_name) rfl
  obtain ⟨fd__law_is_deed, F__law_is_deed⟩ := c.def_ 24 (d := d__law_is_deed) rfl
  obtain ⟨fd__law_shape, F__law_shape⟩ := c.def_ 25 (d := d__law_shape) rfl
  obtain ⟨fd__law_put, F__law_put⟩ := c.def_ 26 (d := d__law_put) rfl
  obtain ⟨fd__law_odd, F__law_odd⟩ := c.def_ 27 (d := d__law_odd) rfl
  obtain ⟨fd__law_name, F__law_name⟩ := c.def_ 28 (d := d__law_name) rfl
  obtain ⟨fd__law_deed, F__law_deed⟩ := c.def_ 29 (d := d__law_deed) rfl
  obtain ⟨fd__law_entry, F__law_entry⟩ := c.def_ 30 (d := d__law_entry) rfl
  obtain ⟨fd__law_spoil_deed, F__law_spoil_deed⟩ := c.def_ 31 (d := d__law_spoil_deed) rfl
  obtain ⟨fd__law_spoil, F__law_spoil⟩ := c.def_ 32 (d := d__law_spoil) rfl
  obtain ⟨fd__law_parts, F__law_parts⟩ := c.def_ 33 (d := d__law_parts) rfl
  obtain ⟨fd__law_judged, F__law_judged⟩ := c.def_ 34 (d := d__law_judged) rfl
  obtain ⟨fd__law_read, F__law_read⟩ := c.def_ 35 (d := d__law_read) rfl
  obtain ⟨fd_law, F_law⟩ := c.def_ 36 (d := d_law) rfl
  have e := hfa.symm.trans (He.glo_ok X G (c.fact 36 (f := .glo "law") rfl))
  cases e
  have b := FunD.bindsA (ps := ["script"]) F_law fun _ _ _ _ _ _ us hl => match us, hl with | [_], _ => rfl
  refine ⟨fd_law, fun s v => b s [v] rfl, fun base _ _ => ?_⟩
  have C_room_names := ok_room_names (P := P) (w := w) (base := base) T F_room_names (He.glo_ok X G (c.fact 0 (f := .glo "room_names") rfl))
  have C_is_integer := ok_is_integer (P := P) (w := w) (base := base) T F_is_integer (He.glo_ok X G (c.fact 1 (f := .glo "is_integer") rfl))
  have C_is_device := ok_is_device (P := P) (w := w) (base := base) T F_is_device (He.glo_ok X G (c.fact 2 (f := .glo "is_device") rfl)) C_is_integer
  have C_is_text := ok_is_text (P := P) (w := w) (base := base) T F_is_text (He.glo_ok X G (c.fact 3 (f := .glo "is_text") rfl))
  have C_is_name := ok_is_name (P := P) (w := w) (base := base) T F_is_name (He.glo_ok X G (c.fact 4 (f := .glo "is_name") rfl)) C_is_integer C_is_device
  have C_is_about := ok_is_about (P := P) (w := w) (base := base) T F_is_about (He.glo_ok X G (c.fact 5 (f := .glo "is_about") rfl)) C_is_name
  have C_is_times := ok_is_times (P := P) (w := w) (base := base) T F_is_times (He.glo_ok X G (c.fact 6 (f := .glo "is_times") rfl)) C_is_integer
  have C_is_deed := ok_is_deed (P := P) (w := w) (base := base) T F_is_deed (He.glo_ok X G (c.fact 7 (f := .glo "is_deed") rfl)) C_room_names C_is_text C_is_name C_is_about
  have C_has_shape := ok_has_shape (P := P) (w := w) (base := base) T F_has_shape (He.glo_ok X G (c.fact 8 (f := .glo "has_shape") rfl)) C_is_name C_is_times C_is_deed
  have C_name_of := ok_name_of (P := P) (w := w) (base := base) T F_name_of (He.glo_ok X G (c.fact 9 (f := .glo "name_of") rfl))
  have C_message_of := ok_message_of (P := P) (w := w) (base := base) T F_message_of (He.glo_ok X G (c.fact 10 (f := .glo "message_of") rfl)) C_name_of
  have C_has_seen := ok_has_seen (P := P) (w := w) (base := base) T F_has_seen (He.glo_ok X G (c.fact 11 (f := .glo "has_seen") rfl))
  have C__law_seed := ok__law_seed (P := P) (w := w) (base := base) T F__law_seed (He.glo_ok X G (c.fact 12 (f := .glo "_law_seed") rfl))
  have C__law_source := ok__law_source (P := P) (w := w) (base := base) T F__law_source (He.glo_ok X G (c.fact 13 (f := .glo "_law_source") rfl)) C__law_seed
  have C__law_take := ok__law_take (P := P) (w := w) (base := base) T F__law_take (He.glo_ok X G (c.fact 14 (f := .glo "_law_take") rfl))
  have C__law_word := ok__law_word (P := P) (w := w) (base := base) T F__law_word (He.glo_ok X G (c.fact 15 (f := .glo "_law_word") rfl)) C__law_take
  have C__law_house := ok__law_house (P := P) (w := w) (base := base) T F__law_house (He.glo_ok X G (c.fact 16 (f := .glo "_law_house") rfl)) C__law_take C__law_word
  have C__law_same := ok__law_same (P := P) (w := w) (base := base) T F__law_same (He.glo_ok X G (c.fact 17 (f := .glo "_law_same") rfl)) 8
  have C__law_copy := ok__law_copy (P := P) (w := w) (base := base) T F__law_copy (He.glo_ok X G (c.fact 18 (f := .glo "_law_copy") rfl)) 8
  have C__law_signs := ok__law_signs (P := P) (w := w) (base := base) T F__law_signs (He.glo_ok X G (c.fact 19 (f := .glo "_law_signs") rfl))
  have C__law_text := ok__law_text (P := P) (w := w) (base := base) T F__law_text (He.glo_ok X G (c.fact 20 (f := .glo "_law_text") rfl)) C__law_take C__law_signs
  have C__law_is_int := ok__law_is_int (P := P) (w := w) (base := base) T F__law_is_int (He.glo_ok X G (c.fact 21 (f := .glo "_law_is_int") rfl))
  have C__law_is_text := ok__law_is_text (P := P) (w := w) (base := base) T F__law_is_text (He.glo_ok X G (c.fact 22 (f := .glo "_law_is_text") rfl)) C__law_signs
  have C__law_is_name := ok__law_is_name (P := P) (w := w) (base := base) T F__law_is_name (He.glo_ok X G (c.fact 23 (f := .glo "_law_is_name") rfl)) C__law_is_int
  have C__law_is_deed := ok__law_is_deed (P := P) (w := w) (base := base) T F__law_is_deed (He.glo_ok X G (c.fact 24 (f := .glo "_law_is_deed") rfl)) C__law_is_text C__law_is_name
  have C__law_shape := ok__law_shape (P := P) (w := w) (base := base) T F__law_shape (He.glo_ok X G (c.fact 25 (f := .glo "_law_shape") rfl)) C__law_is_int C__law_is_name C__law_is_deed
  have C__law_put := ok__law_put (P := P) (w := w) (base := base) T F__law_put (He.glo_ok X G (c.fact 26 (f := .glo "_law_put") rfl))
  have C__law_odd := ok__law_odd (P := P) (w := w) (base := base) T F__law_odd (He.glo_ok X G (c.fact 27 (f := .glo "_law_odd") rfl)) C__law_take
  have C__law_name := ok__law_name (P := P) (w := w) (base := base) T F__law_name (He.glo_ok X G (c.fact 28 (f := .glo "_law_name") rfl)) C__law_take
  have C__law_deed := ok__law_deed (P := P) (w := w) (base := base) T F__law_deed (He.glo_ok X G (c.fact 29 (f := .glo "_law_deed") rfl)) C__law_take C__law_text C__law_name
  have C__law_entry := ok__law_entry (P := P) (w := w) (base := base) T F__law_entry (He.glo_ok X G (c.fact 30 (f := .glo "_law_entry") rfl)) C__law_take C__law_name C__law_deed
  have C__law_spoil_deed := ok__law_spoil_deed (P := P) (w := w) (base := base) T F__law_spoil_deed (He.glo_ok X G (c.fact 31 (f := .glo "_law_spoil_deed") rfl)) C__law_take C__law_put C__law_odd
  have C__law_spoil := ok__law_spoil (P := P) (w := w) (base := base) T F__law_spoil (He.glo_ok X G (c.fact 32 (f := .glo "_law_spoil") rfl)) C__law_take C__law_put C__law_odd C__law_spoil_deed
  have C__law_parts := ok__law_parts (P := P) (w := w) (base := base) T F__law_parts (He.glo_ok X G (c.fact 33 (f := .glo "_law_parts") rfl))
  have C__law_judged := ok__law_judged (P := P) (w := w) (base := base) T F__law_judged (He.glo_ok X G (c.fact 34 (f := .glo "_law_judged") rfl)) C_is_text C_is_name C_has_shape C__law_same C__law_copy C__law_is_text C__law_is_name C__law_shape
  have C__law_read := ok__law_read (P := P) (w := w) (base := base) T F__law_read (He.glo_ok X G (c.fact 35 (f := .glo "_law_read") rfl)) C_name_of C_message_of C_has_seen C__law_same
  exact okF_law (P := P) (w := w) (base := base) T F_law C__law_source C__law_take C__law_house C__law_text C__law_put C__law_odd C__law_entry C__law_spoil_deed C__law_spoil C__law_parts C__law_judged C__law_read
end K02

open PySem PySem.W PySem.Calls PyProof.Rows in
theorem rw_hearsay_k02_shapes_holds_of (hlaw : ∀ (is : List Int), Py.wp (K02.f_law [.ref 0] [.frz (is.map .int)]) fun v _ => v = .bl true) : PySem.Challenge.rw_hearsay_k02_shapes.Holds := by
  w_on; o_law
  refine HandSHeadRun.head_any (r := OpenLaw.row PySem.Challenge.rw_hearsay_k02_shapes) (q := view (OpenLaw.row PySem.Challenge.rw_hearsay_k02_shapes).prog [41]) (H := K02.hk) (ob := K02.ob) (M := 1400) (loose := K02.loose) (d := HandSHeadRun.topDef (OpenLaw.row PySem.Challenge.rw_hearsay_k02_shapes).prog 41) (kwd := []) K02.ob_eq
    (by kernel_rfl) (fun s => by kernel_rfl) K02.run (by kernel_rfl) (by kernel_rfl) (by kernel_rfl) (by rfl) (by first | assumption | decide +kernel) (by decide +kernel) ⟨rfl, rfl, rfl, rfl, rfl, by decide +kernel⟩ ?hw ?hc
  case hw => w_witness2
  case hc =>
    refine L2.walk_ofE (l := PySem.Challenge.rw_hearsay_k02_shapes) (n := 63) (k := 11) (x := "script") (CX := L2.CX0) rfl (by decide) (by kernel_rfl) ⟨rfl, by decide, by decide⟩ ?F (fun _ _ _ _ z => z)
    intro w mg fa h Y G hmg0
    obtain ⟨K, KX, c⟩ := Y
    have hmg : mg ("law" : PySem.Str) = some (.ref fa) := by
      have e : (HandSHeadRun.topDef (OpenLaw.row PySem.Challenge.rw_hearsay_k02_shapes).prog 41).name = ("law" : PySem.Str) := by kernel_rfl
      rw [← e]
      exact hmg0
    obtain ⟨fd, hb, hF⟩ := K02.all (P := (PySem.Challenge.rw_hearsay_k02_shapes).prog) (w := w) KX G hmg c
    exact ⟨K, fd, Py.spF K mg 1 K02.f_law, KX, hb, fun H a ns hl hO hS => Py.start_sp hO hS (hlaw ns), hF⟩
end

section
set_option autoImplicit false
set_option linter.all false
namespace K02
open Py
/-- a house -/
def HD (os : List (List Char)) (rs : List (List Char × List Char)) : D := .tup [.tup (os.map .str), .tup (rs.map fun r => .tup [.str r.1, .str r.2])]
def isI : P → Bool | .int _ => true | _ => false
def okc (c : Char) : Bool := decide (32 ≤ c.toNat) && decide (c.toNat ≤ 126) && decide (c.toNat ≠ 37)
def textP : P → Bool | .str s => decide (s.length ≤ 60) && s.all okc | _ => false
def devP (n : Nat) : P → Bool | .int d => decide (0 ≤ d) && decide (d < n) | _ => false
def nameP (n : Nat) : P → Bool | .tup [.int t, d] => decide (1 ≤ t) && devP n d | _ => false
def aboutP (n : Nat) : P → Bool | .non => true | p => nameP n p
def numP : P → Bool | .int i => decide (0 ≤ i) | _ => false
def timesP (n : Nat) : P → Bool | .tup ps => decide (ps.length = n) && ps.all numP | _ => false
def deedP (n : Nat) (rooms : List (List Char)) : P → Bool
  | .tup (.str k :: .str r :: ps) => decide (r ∈ rooms) &&
    (if k = ['s', 'a', 'y'] then (match ps with | [a, t] => aboutP n a && textP t | _ => false)
     else if k = ['e', 'd', 'i', 't'] then (match ps with | [m, a, t] => nameP n m && aboutP n a && textP t | _ => false)
     else if k = ['d', 'r', 'o', 'p'] then (match ps with | [m] => nameP n m | _ => false)
     else (decide (k = ['r', 'e', 'a', 'd']) || decide (k = ['c', 'o', 'm', 'e']) || decide (k = ['g', 'o'])) && ps.isEmpty)
  | _ => false
def shapeP (n : Nat) (rooms : List (List Char)) : P → Bool
  | .tup [t, d, s, e] => nameP n (.tup [t, d]) && timesP n s && deedP n rooms e
  | _ => false
section
variable {n : Nat} {g : G} {v : D} {p : P} {os : List (List Char)} {rs : List (List Char × List Char)}
theorem ty_view (h : view g n v = some p) : ∃ u, tyOf v g = some u ∧ (isTy .int u = true → isTy .bool u = false → isI p = true) ∧ True := by
  rcases view_inv h with ⟨rfl, rfl⟩ | ⟨b, rfl, rfl⟩ | ⟨b, rfl, rfl⟩ | ⟨b, rfl, rfl⟩ | ⟨m, ds, ps, e, rfl, rfl, h1⟩ | ⟨m, r, xs, ps, e, rfl, hx, rfl, h1⟩
  all_goals simp [isTy, isI]
  exact ⟨_, ty_ref hx, by simp⟩
theorem is_integer (h : view g n v = some p) : f_is_integer [v] g = .ok (.bl (isI p)) g := by
  apply eq_ok
  unfold f_is_integer
  unfold b_is_integer
  rcases view_inv h with ⟨rfl, rfl⟩ | ⟨b, rfl, rfl⟩ | ⟨b, rfl, rfl⟩ | ⟨b, rfl, rfl⟩ | ⟨m, ds, ps, e, rfl, rfl, h1⟩ | ⟨m, r, xs, ps, e, rfl, hx, rfl, h1⟩
  all_goals simp [lz, isTy, isI]
  simp [lz, ty_ref hx, isTy]
theorem law_is_int (h : view g n v = some p) : f__law_is_int [v] g = .ok (.bl (isI p)) g := is_integer h
theorem hd0 : atI [D.tup (os.map .str), .tup (rs.map fun r => .tup [.str r.1, .str r.2])] 0 = some (.tup (os.map .str)) := rfl
theorem is_device (h : view g n v = some p) : f_is_device [HD os rs, v] g = .ok (.bl (devP os.length p)) g := by
  apply eq_ok
  unfold f_is_device
  unfold b_is_device
  rcases view_inv h with ⟨rfl, rfl⟩ | ⟨b, rfl, rfl⟩ | ⟨b, rfl, rfl⟩ | ⟨b, rfl, rfl⟩ | ⟨m, ds, ps, e, rfl, rfl, h1⟩ | ⟨m, r, xs, ps, e, rfl, hx, rfl, h1⟩
  all_goals simp [lz, is_integer h, isI, devP, HD]
  by_cases h0 : 0 ≤ b <;> simp [lz, h0]
theorem is_text (h : view g n v = some p) (hz : ∀ s, v = .str s → s.length ≤ LINE) : f_is_text [v] g = .ok (.bl (textP p)) g := by
  apply eq_ok
  unfold f_is_text
  unfold b_is_text
  rcases view_inv h with ⟨rfl, rfl⟩ | ⟨b, rfl, rfl⟩ | ⟨b, rfl, rfl⟩ | ⟨s, rfl, rfl⟩ | ⟨m, ds, ps, e, rfl, rfl, h1⟩ | ⟨m, r, xs, ps, e, rfl, hx, rfl, h1⟩
  all_goals simp [lz, isTy, textP]
  · have hl := hz s rfl
    simp [lz, hl]
    by_cases h6 : 60 < (s.length : Int)
    · simp [lz, h6]; omega
    · simp [lz, h6]
      refine look_all (good := fun d => match d with | .str [c] => okc c | _ => false) ?_ ?_ ?_
      · intro d hd
        obtain ⟨c, hc, rfl⟩ := List.mem_map.mp hd
        by_cases h1 : (32 : Int) ≤ c.toNat
        · by_cases h2 : (c.toNat : Int) ≤ 126
          · by_cases h3 : (c.toNat : Int) = 37
            · simp [lz, okc, h1, h2, h3]; omega
            · simp [lz, okc, h1, h2, h3]; omega
          · simp [lz, okc, h1, h2]; omega
        · simp [lz, okc, h1]; omega
      · intro ha ρ' _
        simp at ha ⊢
        exact ⟨by omega, ha⟩
      · intro ha
        simp at ha ⊢
        exact fun _ => ha
  · simp [lz, ty_ref hx, isTy]
theorem view_int {i : Int} (h : view g n v = some (.int i)) : v = .int i := by
  rcases view_inv h with ⟨rfl, e⟩ | ⟨b, rfl, e⟩ | ⟨b, rfl, e⟩ | ⟨s, rfl, e⟩ | ⟨m, ds, ps, _, rfl, e, h1⟩ | ⟨m, r, xs, ps, _, rfl, hx, e, h1⟩ <;> cases e
  rfl
theorem view_str {i : List Char} (h : view g n v = some (.str i)) : v = .str i := by
  rcases view_inv h with ⟨rfl, e⟩ | ⟨b, rfl, e⟩ | ⟨b, rfl, e⟩ | ⟨s, rfl, e⟩ | ⟨m, ds, ps, _, rfl, e, h1⟩ | ⟨m, r, xs, ps, _, rfl, hx, e, h1⟩ <;> cases e
  rfl
theorem view_non (h : view g n v = some .non) : v = .non := by
  rcases view_inv h with ⟨rfl, e⟩ | ⟨b, rfl, e⟩ | ⟨b, rfl, e⟩ | ⟨s, rfl, e⟩ | ⟨m, ds, ps, _, rfl, e, h1⟩ | ⟨m, r, xs, ps, _, rfl, hx, e, h1⟩ <;> cases e
  rfl
theorem isI_int (h : isI p = true) : ∃ i, p = .int i := by
  cases p <;> simp [lz, isI] at h
  exact ⟨_, rfl⟩
/-- is_name, in both texts, from what they ask -/
theorem is_name (h : view g n v = some p) : f_is_name [HD os rs, v] g = .ok (.bl (nameP os.length p)) g := by
  apply eq_ok
  unfold f_is_name
  unfold b_is_name
  rcases view_inv h with ⟨rfl, rfl⟩ | ⟨b, rfl, rfl⟩ | ⟨b, rfl, rfl⟩ | ⟨s, rfl, rfl⟩ | ⟨m, ds, ps, e, rfl, rfl, h1⟩ | ⟨m, r, xs, ps, e, rfl, hx, rfl, h1⟩
  case inr.inr.inr.inr.inr => simp [lz, ty_ref hx, isTy, nameP]
  case inr.inr.inr.inr.inl =>
    rcases ds with _ | ⟨a, _ | ⟨b, _ | ⟨c, r⟩⟩⟩
    · rw [viewL_nil.mp h1]; simp [lz, isTy, nameP]
    · obtain ⟨p, qs, rfl, h2, h3⟩ := viewL_cons.mp h1
      rw [viewL_nil.mp h3]; simp [lz, isTy, nameP]
    · obtain ⟨p, qs, rfl, h2, h3⟩ := viewL_cons.mp h1
      obtain ⟨q, rs', rfl, h4, h5⟩ := viewL_cons.mp h3
      rw [viewL_nil.mp h5]
      cases hp : isI p with
      | false =>
        have : nameP os.length (.tup [p, q]) = false := by cases p <;> simp [lz, nameP, isI] at hp ⊢
        simp [lz, isTy, is_integer h2, hp, this]
      | true =>
        obtain ⟨t, rfl⟩ := isI_int hp
        cases view_int h2
        by_cases h6 : 1 ≤ t
        · simp [lz, isTy, is_integer h2, isI, nameP, h6, is_device h4]
        · simp [lz, isTy, is_integer h2, isI, nameP, h6, is_device h4]
    · obtain ⟨p, qs, rfl, h2, h3⟩ := viewL_cons.mp h1
      obtain ⟨q, rs', rfl, h4, h5⟩ := viewL_cons.mp h3
      obtain ⟨q', rs2, rfl, h6, h7⟩ := viewL_cons.mp h5
      have : nameP os.length (.tup (p :: q :: q' :: rs2)) = false := by cases p <;> simp [lz, nameP]
      simp [lz, isTy, this]
      intro hh
      omega
  all_goals simp [lz, isTy, nameP]
theorem law_is_name (h : view g n v = some p) : f__law_is_name [HD os rs, v] g = .ok (.bl (nameP os.length p)) g := by
  apply eq_ok
  unfold f__law_is_name
  unfold b__law_is_name
  rcases view_inv h with ⟨rfl, rfl⟩ | ⟨b, rfl, rfl⟩ | ⟨b, rfl, rfl⟩ | ⟨s, rfl, rfl⟩ | ⟨m, ds, ps, e, rfl, rfl, h1⟩ | ⟨m, r, xs, ps, e, rfl, hx, rfl, h1⟩
  case inr.inr.inr.inr.inr => simp [lz, ty_ref hx, isTy, nameP]
  case inr.inr.inr.inr.inl =>
    rcases ds with _ | ⟨a, _ | ⟨b, _ | ⟨c, r⟩⟩⟩
    · rw [viewL_nil.mp h1]; simp [lz, isTy, nameP]
    · obtain ⟨p, qs, rfl, h2, h3⟩ := viewL_cons.mp h1
      rw [viewL_nil.mp h3]; simp [lz, isTy, nameP]
    · obtain ⟨p, qs, rfl, h2, h3⟩ := viewL_cons.mp h1
      obtain ⟨q, rs', rfl, h4, h5⟩ := viewL_cons.mp h3
      rw [viewL_nil.mp h5]
      cases hp : isI p with
      | false =>
        have : nameP os.length (.tup [p, q]) = false := by cases p <;> simp [lz, nameP, isI] at hp ⊢
        simp [lz, isTy, law_is_int h2, hp, this]
      | true =>
        obtain ⟨t, rfl⟩ := isI_int hp
        cases view_int h2
        cases hq : isI q with
        | false =>
          have : nameP os.length (.tup [.int t, q]) = false := by cases q <;> simp [lz, nameP, isI, devP] at hq ⊢
          have e2 := law_is_int h2
          have e4 := law_is_int h4
          rw [hp] at e2
          rw [hq] at e4
          simp [lz, isTy, e2, e4, this]
        | true =>
          obtain ⟨d, rfl⟩ := isI_int hq
          cases view_int h4
          by_cases h6 : 1 ≤ t
          · by_cases h7 : 0 ≤ d
            · simp [lz, isTy, law_is_int h2, law_is_int h4, isI, nameP, devP, h6, h7, HD]
            · simp [lz, isTy, law_is_int h2, law_is_int h4, isI, nameP, devP, h6, h7, HD]
          · simp [lz, isTy, law_is_int h2, law_is_int h4, isI, nameP, devP, h6, HD]
    · obtain ⟨p, qs, rfl, h2, h3⟩ := viewL_cons.mp h1
      obtain ⟨q, rs', rfl, h4, h5⟩ := viewL_cons.mp h3
      obtain ⟨q', rs2, rfl, h6, h7⟩ := viewL_cons.mp h5
      have : nameP os.length (.tup (p :: q :: q' :: rs2)) = false := by cases p <;> simp [lz, nameP]
      simp [lz, isTy, this]
      intro hh
      omega
  all_goals simp [lz, isTy, nameP]
theorem is_about (h : view g n v = some p) : f_is_about [HD os rs, v] g = .ok (.bl (aboutP os.length p)) g := by
  apply eq_ok
  unfold f_is_about
  unfold b_is_about
  have hn := is_name (os := os) (rs := rs) h
  rcases view_inv h with ⟨rfl, rfl⟩ | ⟨b, rfl, rfl⟩ | ⟨b, rfl, rfl⟩ | ⟨s, rfl, rfl⟩ | ⟨m, ds, ps, e, rfl, rfl, h1⟩ | ⟨m, r, xs, ps, e, rfl, hx, rfl, h1⟩ <;> simp [lz, hn, aboutP]
theorem all_views {f : D → Option P} {q : P → Bool} : ∀ {ds : List D} {ps : List P}, viewL f ds = some ps → (ds.all fun d => match f d with | some p => q p | none => false) = ps.all q
  | [], ps, h => by rw [viewL_nil.mp h]; rfl
  | d :: ds, ps, h => by
    obtain ⟨p, qs, rfl, h1, h2⟩ := viewL_cons.mp h
    simp only [List.all_cons, h1, all_views (q := q) h2]
theorem numP_int {i : Int} : numP (.int i) = decide (0 ≤ i) := rfl
theorem is_times (h : view g n v = some p) : f_is_times [HD os rs, v] g = .ok (.bl (timesP os.length p)) g := by
  apply eq_ok
  unfold f_is_times
  unfold b_is_times
  rcases view_inv h with ⟨rfl, rfl⟩ | ⟨b, rfl, rfl⟩ | ⟨b, rfl, rfl⟩ | ⟨s, rfl, rfl⟩ | ⟨m, ds, ps, e, rfl, rfl, h1⟩ | ⟨m, r, xs, ps, e, rfl, hx, rfl, h1⟩
  case inr.inr.inr.inr.inr => simp [lz, ty_ref hx, isTy, timesP]
  case inr.inr.inr.inr.inl =>
    have hl := viewL_len h1
    by_cases h2 : (ds.length : Int) = os.length
    · simp [lz, isTy, timesP, HD, h2, hl]
      have h3 : ds.length = os.length := by omega
      refine look_all (good := fun d => match view g m d with | some p => numP p | none => false) ?_ ?_ ?_
      · intro d hd
        obtain ⟨i, hi⟩ := List.mem_iff_getElem?.mp hd
        obtain ⟨p, hp, hv⟩ := viewL_get h1 hi
        cases hq : isI p with
        | false =>
          have : numP p = false := by cases p <;> simp [lz, numP, isI] at hq ⊢
          have e2 := is_integer hv
          rw [hq] at e2
          simp [lz, e2, hv, this]
        | true =>
          obtain ⟨z, rfl⟩ := isI_int hq
          have e2 := view_int hv
          subst e2
          by_cases h6 : z < 0
          · simp [lz, is_integer hv, isI, hv, numP, h6]
          · simp [lz, is_integer hv, isI, hv, numP, h6]; omega
      · intro ha ρ' _
        rw [all_views h1] at ha
        simp at ha ⊢
        exact ⟨h3, ha⟩
      · intro ha
        rw [all_views h1] at ha
        simp at ha ⊢
        exact fun _ => ha
    · have h3 : ¬ ds.length = os.length := by omega
      simp [lz, isTy, timesP, HD, h2, hl, h3]
  all_goals simp [lz, isTy, timesP]
theorem room_names (hr : rs.length ≤ 1000) : f_room_names [HD os rs] g = .ok (.ref g.length) (g ++ [.lst (rs.map fun r => .str r.1)]) := by
  apply eq_ok
  unfold f_room_names
  unfold b_room_names
  simp [HD]
  refine lc_by (fun i acc g' => g' = g ++ [.lst acc] ∧ acc = (rs.take i).map fun r => .str r.1) (fun _ _ _ _ => rfl) ?_ ?_ ?_ _ 0 [] _ rfl (Nat.zero_le _) ⟨rfl, by simp⟩
  · rintro i acc _ ⟨rfl, rfl⟩; simp
  · rintro i d acc _ hd ⟨rfl, rfl⟩
    rw [List.getElem?_map, Option.map_eq_some_iff] at hd
    obtain ⟨r, hr, rfl⟩ := hd
    simp [wipe]
    refine ⟨by unfold LINE; omega, ?_⟩
    rw [List.take_add_one, List.getElem?_map, hr]; rfl
  · rintro acc _ ⟨rfl, rfl⟩
    simp
mutual
def sm : P → Bool
  | .str s => decide (s.length ≤ 100000)
  | .tup ps => decide (ps.length ≤ 100000) && sms ps
  | .lst ps => decide (ps.length ≤ 100000) && sms ps
  | _ => true
def sms : List P → Bool
  | [] => true
  | p :: r => sm p && sms r
end
theorem sm_str {s : List Char} (h : sm (.str s) = true) : s.length ≤ LINE := by
  simp [sm] at h; unfold LINE; omega
theorem sm_mem {p : P} : ∀ {ps : List P}, sms ps = true → p ∈ ps → sm p = true
  | [], _, h => by cases h
  | q :: r, h, hm => by
    simp [sms] at h
    rcases List.mem_cons.mp hm with e | hm
    · rw [e]; exact h.1
    · exact sm_mem h.2 hm
theorem is_text' (h : view g n v = some p) (hz : sm p = true) : f_is_text [v] g = .ok (.bl (textP p)) g := is_text h fun s e => by
  subst e
  simp [view] at h
  subst h
  exact sm_str hz
theorem ref_room (g : G) (xs : List D) : lstOf (.ref g.length) (g ++ [.lst xs]) = some xs := lstOf_lst (by simp)
theorem views_strs (g : G) (n : Nat) (ss : List (List Char)) : viewL (view g n) (ss.map D.str) = some (ss.map P.str) := by
  induction ss with
  | nil => rfl
  | cons s ss ih => exact viewL_cons.mpr ⟨_, _, rfl, by simp [view], ih⟩
/-- a text in a list of texts -/
theorem in_strs {g : G} {r : Nat} {ss : List (List Char)} (s : List Char) (h : lstOf (.ref r) g = some (ss.map D.str)) : inD (.str s) (.ref r) g = some (decide (s ∈ ss)) := by
  have e1 : view g 60 (.str s) = some (.str s) := by simp [view]
  have e2 := views_strs g 60 ss
  have : inD (.str s) (.ref r) g = some ((ss.map P.str).any fun q => P.eqv q (.str s)) := by
    rw [inD_ref, h]
    dsimp only
    rw [e1, e2]
  rw [this]
  congr 1
  rw [Bool.eq_iff_iff]
  simp [P.eqv]
theorem in_strs_t {g : G} {ss : List (List Char)} (s : List Char) : inD (.str s) (.tup (ss.map D.str)) g = some (decide (s ∈ ss)) := by
  have : inD (.str s) (.tup (ss.map D.str)) g = some ((ss.map D.str).any fun y => eqF y (.str s)) := by
    rw [inD_tup, if_pos (by simp [flat])]
  rw [this]
  congr 1
  rw [Bool.eq_iff_iff]
  simp [eqF]
def tyP : P → Option Ty | .non => none | .bl _ => some .bool | .int _ => some .int | .str _ => some .str | .tup _ => some .tuple | .lst _ => some .list
theorem ty_is (h : view g n v = some p) : tyOf v g = some (tyP p) := by
  rcases view_inv h with ⟨rfl, rfl⟩ | ⟨b, rfl, rfl⟩ | ⟨b, rfl, rfl⟩ | ⟨s, rfl, rfl⟩ | ⟨m, ds, ps, e, rfl, rfl, h1⟩ | ⟨m, r, xs, ps, e, rfl, hx, rfl, h1⟩
  case inr.inr.inr.inr.inr => exact ty_ref hx
  all_goals rfl
def isS : P → Bool | .str _ => true | _ => false
theorem isS_str (h : isS p = true) : ∃ i, p = .str i := by
  cases p <;> simp [isS] at h
  exact ⟨_, rfl⟩
theorem isTy_str (p : P) : isTy .str (tyP p) = isS p := by cases p <;> rfl
theorem deedP_no {n : Nat} {rooms : List (List Char)} {p q : P} {ps : List P} (h : isS p = false ∨ isS q = false) : deedP n rooms (.tup (p :: q :: ps)) = false := by
  cases p <;> cases q <;> simp [deedP, isS] at h ⊢

theorem lens {k : Nat} {ds : List D} {ps : List P} {f : D → Option P} (h : viewL f ds = some ps) (hk : ps.length ≠ k) : ¬ ((ds.length : Int) = k) := by
  have := viewL_len h
  omega
theorem wp_deed {Q : D → G → Prop} (hr : rs.length ≤ 1000) (h : view g n v = some p) (hz : sm p = true) (k : ∀ g', Only [] g g' → Q (.bl (deedP os.length (rs.map (·.1)) p)) g') : wp (f_is_deed [HD os rs, v] g) Q := by
  unfold f_is_deed
  unfold b_is_deed
  have k0 := k g (Only.refl _ _)
  rcases view_inv h with ⟨rfl, rfl⟩ | ⟨b, rfl, rfl⟩ | ⟨b, rfl, rfl⟩ | ⟨s, rfl, rfl⟩ | ⟨m, ds, ps, e, rfl, rfl, h1⟩ | ⟨m, r, xs, ps, e, rfl, hx, rfl, h1⟩
  case inr.inr.inr.inr.inr => simp [ty_ref hx, isTy, deedP] at k0 ⊢; exact k0
  case inr.inr.inr.inr.inl =>
    rcases ds with _ | ⟨a, _ | ⟨b, r⟩⟩
    · rw [viewL_nil.mp h1] at k0; simp [isTy, deedP] at k0 ⊢; exact k0
    · obtain ⟨p, qs, rfl, h2, h3⟩ := viewL_cons.mp h1
      rw [viewL_nil.mp h3] at k0; simp [isTy, deedP] at k0 ⊢; exact k0
    · obtain ⟨p, qs, rfl, h2, h3⟩ := viewL_cons.mp h1
      obtain ⟨q, rs', rfl, h4, h5⟩ := viewL_cons.mp h3
      have hlen : ¬ ((r.length : Int) + 1 + 1 < 2) := by omega
      have t1 : isTy .tuple (some .tuple) = true := rfl
      simp [t1, hlen]
      unfold lz; simp
      unfold lz; simp
      unfold lz
      cases hp : isS p with
      | false =>
        rw [deedP_no (.inl hp)] at k0
        simp [ty_is h2, isTy_str, hp, k0]
      | true =>
        cases hq : isS q with
        | false =>
          rw [deedP_no (.inr hq)] at k0
          simp [ty_is h2, ty_is h4, isTy_str, hp, hq, k0]
        | true =>
          obtain ⟨kd, rfl⟩ := isS_str hp
          obtain ⟨rm, rfl⟩ := isS_str hq
          have e1 := view_str h2; subst e1
          have e2 := view_str h4; subst e2
          have ex : Only [] g (g ++ [.lst (rs.map fun r => .str r.1)]) := Only.snoc _ _ _
          have hin : inD (.str rm) (.ref g.length) (g ++ [.lst (rs.map fun r => .str r.1)]) = some (decide (rm ∈ rs.map (·.1))) := in_strs rm (by
            rw [ref_room, List.map_map]; rfl)
          have k1 := k _ ex
          have t2 : isTy .str (some .str) = true := rfl
          simp only [deedP] at k1
          simp [t2, room_names hr, hin]
          by_cases hm : rm ∈ rs.map (·.1)
          · rw [decide_eq_true hm] at k1 ⊢
            simp only [Bool.true_and] at k1
            simp
            unfold lz; simp
            by_cases c1 : kd = ['s', 'a', 'y']
            · rw [if_pos c1] at k1 ⊢
              rcases r with _ | ⟨x, _ | ⟨y, _ | ⟨z, r⟩⟩⟩
              · rw [viewL_nil.mp h5] at k1; simp at k1 ⊢; exact k1
              · obtain ⟨p1, qs1, rfl, a1, a2⟩ := viewL_cons.mp h5
                rw [viewL_nil.mp a2] at k1; simp at k1 ⊢; exact k1
              · obtain ⟨p1, qs1, rfl, a1, a2⟩ := viewL_cons.mp h5
                obtain ⟨p2, qs2, rfl, b1, b2⟩ := viewL_cons.mp a2
                rw [viewL_nil.mp b2] at k1 hz
                have z2 : sm p2 = true := by simp [sm, sms] at hz; exact hz.2.2.2
                have v1 := is_about (os := os) (rs := rs) (ex.ext.view a1)
                have v2 := is_text' (ex.ext.view b1) z2
                cases hh : aboutP os.length p1 with
                | false => rw [hh] at v1; simp [hh] at k1; simp [v1, k1]
                | true => rw [hh] at v1; simp [hh] at k1; simp [v1, v2, k1]
              · obtain ⟨p1, qs1, rfl, a1, a2⟩ := viewL_cons.mp h5
                obtain ⟨p2, qs2, rfl, b1, b2⟩ := viewL_cons.mp a2
                obtain ⟨p3, qs3, rfl, c1, c2⟩ := viewL_cons.mp b2
                have : ¬ ((r.length : Int) + 1 + 1 + 1 + 1 + 1 = 4) := by omega
                simp [this] at k1 ⊢; exact k1
            · rw [if_neg c1] at k1 ⊢
              unfold lz; simp
              by_cases c2 : kd = ['e', 'd', 'i', 't']
              · rw [if_pos c2] at k1 ⊢
                rcases r with _ | ⟨x, _ | ⟨y, _ | ⟨z, _ | ⟨z', r⟩⟩⟩⟩
                · rw [viewL_nil.mp h5] at k1; simp at k1 ⊢; exact k1
                · obtain ⟨p1, qs1, rfl, a1, a2⟩ := viewL_cons.mp h5
                  rw [viewL_nil.mp a2] at k1; simp at k1 ⊢; exact k1
                · obtain ⟨p1, qs1, rfl, a1, a2⟩ := viewL_cons.mp h5
                  obtain ⟨p2, qs2, rfl, b1, b2⟩ := viewL_cons.mp a2
                  rw [viewL_nil.mp b2] at k1; simp at k1 ⊢; exact k1
                · obtain ⟨p1, qs1, rfl, a1, a2⟩ := viewL_cons.mp h5
                  obtain ⟨p2, qs2, rfl, b1, b2⟩ := viewL_cons.mp a2
                  obtain ⟨p3, qs3, rfl, d1, d2⟩ := viewL_cons.mp b2
                  rw [viewL_nil.mp d2] at k1 hz
                  have z2 : sm p3 = true := by simp [sm, sms] at hz; exact hz.2.2.2.2
                  have v1 := is_name (os := os) (rs := rs) (ex.ext.view a1)
                  have v2 := is_about (os := os) (rs := rs) (ex.ext.view b1)
                  have v3 := is_text' (ex.ext.view d1) z2
                  cases h1' : nameP os.length p1 with
                  | false => rw [h1'] at v1; simp [h1'] at k1; simp [v1, k1]
                  | true =>
                    rw [h1'] at v1
                    simp [v1]
                    unfold lz
                    cases hh : aboutP os.length p2 with
                    | false => rw [hh] at v2; simp [h1', hh] at k1; simp [v2, k1]
                    | true => rw [hh] at v2; simp [h1', hh] at k1; simp [v2, v3, k1]
                · obtain ⟨p1, qs1, rfl, a1, a2⟩ := viewL_cons.mp h5
                  obtain ⟨p2, qs2, rfl, b1, b2⟩ := viewL_cons.mp a2
                  obtain ⟨p3, qs3, rfl, d1, d2⟩ := viewL_cons.mp b2
                  obtain ⟨p4, qs4, rfl, d3, d4⟩ := viewL_cons.mp d2
                  have : ¬ ((r.length : Int) + 1 + 1 + 1 + 1 + 1 + 1 = 5) := by omega
                  simp [this] at k1 ⊢; exact k1
              · rw [if_neg c2] at k1 ⊢
                unfold lz; simp
                by_cases c3 : kd = ['d', 'r', 'o', 'p']
                · rw [if_pos c3] at k1 ⊢
                  rcases r with _ | ⟨x, _ | ⟨y, r⟩⟩
                  · rw [viewL_nil.mp h5] at k1; simp at k1 ⊢; exact k1
                  · obtain ⟨p1, qs1, rfl, a1, a2⟩ := viewL_cons.mp h5
                    rw [viewL_nil.mp a2] at k1
                    have v1 := is_name (os := os) (rs := rs) (ex.ext.view a1)
                    simp at k1
                    simp [v1, k1]
                  · obtain ⟨p1, qs1, rfl, a1, a2⟩ := viewL_cons.mp h5
                    obtain ⟨p2, qs2, rfl, b1, b2⟩ := viewL_cons.mp a2
                    have : ¬ ((r.length : Int) + 1 + 1 + 1 + 1 = 3) := by omega
                    simp [this] at k1 ⊢; exact k1
                · rw [if_neg c3] at k1 ⊢
                  unfold lz
                  have hw : inD (.str kd) (.tup [.str ['r', 'e', 'a', 'd'], .str ['c', 'o', 'm', 'e'], .str ['g', 'o']]) (g ++ [.lst (rs.map fun r => .str r.1)]) = some (decide (kd ∈ [['r', 'e', 'a', 'd'], ['c', 'o', 'm', 'e'], ['g', 'o']])) := in_strs_t (ss := [['r', 'e', 'a', 'd'], ['c', 'o', 'm', 'e'], ['g', 'o']]) kd
                  simp [LINE, hw]
                  have hl : ((r.length : Int) + 1 + 1 == 2) = rs'.isEmpty := by
                    have := viewL_len h5
                    cases rs' with
                    | nil => simp at this ⊢; omega
                    | cons _ _ => simp at this ⊢; omega
                  by_cases c4 : kd = ['r', 'e', 'a', 'd'] ∨ kd = ['c', 'o', 'm', 'e'] ∨ kd = ['g', 'o']
                  · rw [if_pos c4, hl]
                    have : (decide (kd = ['r', 'e', 'a', 'd']) || decide (kd = ['c', 'o', 'm', 'e']) || decide (kd = ['g', 'o'])) = true := by simp [or_assoc]; exact c4
                    rw [this] at k1
                    simpa using k1
                  · rw [if_neg c4]
                    have : (decide (kd = ['r', 'e', 'a', 'd']) || decide (kd = ['c', 'o', 'm', 'e']) || decide (kd = ['g', 'o'])) = false := by simp; exact ⟨⟨fun h => c4 (.inl h), fun h => c4 (.inr (.inl h))⟩, fun h => c4 (.inr (.inr h))⟩
                    rw [this] at k1
                    simpa using k1
          · rw [decide_eq_false hm] at k1 ⊢
            simp at k1 ⊢
            exact k1
  all_goals (simp [isTy, deedP] at k0 ⊢; exact k0)
theorem wp_shape {Q : D → G → Prop} (hr : rs.length ≤ 1000) (h : view g n v = some p) (hz : sm p = true) (k : ∀ g', Only [] g g' → Q (.bl (shapeP os.length (rs.map (·.1)) p)) g') : wp (f_has_shape [HD os rs, v] g) Q := by
  unfold f_has_shape
  unfold b_has_shape
  have k0 := k g (Only.refl _ _)
  have t1 : isTy .tuple (some .tuple) = true := rfl
  rcases view_inv h with ⟨rfl, rfl⟩ | ⟨b, rfl, rfl⟩ | ⟨b, rfl, rfl⟩ | ⟨s, rfl, rfl⟩ | ⟨m, ds, ps, e, rfl, rfl, h1⟩ | ⟨m, r, xs, ps, e, rfl, hx, rfl, h1⟩
  case inr.inr.inr.inr.inr => simp [ty_ref hx, isTy, shapeP] at k0 ⊢; exact k0
  case inr.inr.inr.inr.inl =>
    rcases ds with _ | ⟨a, _ | ⟨b, _ | ⟨c, _ | ⟨d, _ | ⟨d', r⟩⟩⟩⟩⟩
    · rw [viewL_nil.mp h1] at k0; simp [t1, shapeP] at k0 ⊢; exact k0
    · obtain ⟨p1, qs1, rfl, a1, a2⟩ := viewL_cons.mp h1
      rw [viewL_nil.mp a2] at k0; simp [t1, shapeP] at k0 ⊢; exact k0
    · obtain ⟨p1, qs1, rfl, a1, a2⟩ := viewL_cons.mp h1
      obtain ⟨p2, qs2, rfl, b1, b2⟩ := viewL_cons.mp a2
      rw [viewL_nil.mp b2] at k0; simp [t1, shapeP] at k0 ⊢; exact k0
    · obtain ⟨p1, qs1, rfl, a1, a2⟩ := viewL_cons.mp h1
      obtain ⟨p2, qs2, rfl, b1, b2⟩ := viewL_cons.mp a2
      obtain ⟨p3, qs3, rfl, d1, d2⟩ := viewL_cons.mp b2
      rw [viewL_nil.mp d2] at k0; simp [t1, shapeP] at k0 ⊢; exact k0
    · obtain ⟨p1, qs1, rfl, a1, a2⟩ := viewL_cons.mp h1
      obtain ⟨p2, qs2, rfl, b1, b2⟩ := viewL_cons.mp a2
      obtain ⟨p3, qs3, rfl, d1, d2⟩ := viewL_cons.mp b2
      obtain ⟨p4, qs4, rfl, e1, e2⟩ := viewL_cons.mp d2
      rw [viewL_nil.mp e2] at k0 hz k
      simp only [shapeP] at k0 k
      simp [t1]
      unfold lz
      have vn : view g (m + 1) (.tup [a, b]) = some (.tup [p1, p2]) := by
        simp only [view]
        rw [viewL_cons.mpr ⟨p1, [p2], rfl, a1, viewL_cons.mpr ⟨p2, [], rfl, b1, rfl⟩⟩]; rfl
      have v1 := is_name (os := os) (rs := rs) vn
      have v2 := is_times (os := os) (rs := rs) d1
      have hc : cut [a, b, c, d] none (some 2) = [a, b] := rfl
      cases c1 : nameP os.length (.tup [p1, p2]) with
      | false => rw [c1] at v1; simp [c1] at k0; simp [hc, v1, k0]
      | true =>
        rw [c1] at v1
        cases c2 : timesP os.length p3 with
        | false => rw [c2] at v2; simp [c2] at k0; simp [hc, v1, v2, k0]
        | true =>
          rw [c2] at v2
          simp [hc, v1, v2]
          unfold lz
          simp
          refine wp_deed hr e1 (by simp [sm, sms] at hz; exact hz.2.2.2) fun g' hg => ?_
          have := k g' hg
          rw [c1, c2] at this
          simpa using this
    · obtain ⟨p1, qs1, rfl, a1, a2⟩ := viewL_cons.mp h1
      obtain ⟨p2, qs2, rfl, b1, b2⟩ := viewL_cons.mp a2
      obtain ⟨p3, qs3, rfl, d1, d2⟩ := viewL_cons.mp b2
      obtain ⟨p4, qs4, rfl, e1, e2⟩ := viewL_cons.mp d2
      obtain ⟨p5, qs5, rfl, f1, f2⟩ := viewL_cons.mp e2
      have : ¬ ((r.length : Int) + 1 + 1 + 1 + 1 + 1 = 4) := by omega
      simp [t1, shapeP, this] at k0 ⊢; exact k0
  all_goals (simp [isTy, shapeP] at k0 ⊢; exact k0)
end
end K02
end

section
set_option autoImplicit false
set_option linter.all false
namespace K02
open Py
section
variable {n : Nat} {g : G} {v : D} {p : P} {os : List (List Char)} {rs : List (List Char × List Char)}
theorem ite2 {α : Sort _} (a b : Prop) [Decidable a] [Decidable b] (x y : α) : (if a then (if b then x else y) else y) = if a ∧ b then x else y := by
  by_cases ha : a <;> by_cases hb : b <;> simp [ha, hb]
theorem signs_eq : f__law_signs [] g = .ok (.str (lit_1 ++ lit_2)) g := by
  apply eq_ok
  unfold f__law_signs
  unfold b__law_signs
  simp [lz]
  decide
theorem signs_dec : ∀ k < 127, decide (Char.ofNat k ∈ lit_1 ++ lit_2) = okc (Char.ofNat k) := by decide +kernel
theorem signs_le : ∀ c ∈ lit_1 ++ lit_2, c.toNat ≤ 126 := by decide +kernel
theorem signs_okc (c : Char) : decide (c ∈ lit_1 ++ lit_2) = okc c := by
  by_cases h : c.toNat < 127
  · have := signs_dec c.toNat h
    rw [Char.ofNat_toNat] at this
    exact this
  · have h1 : c ∉ lit_1 ++ lit_2 := fun hc => h (by have := signs_le c hc; omega)
    have h2 : okc c = false := by unfold okc; simp; omega
    rw [h2]
    exact decide_eq_false h1
theorem law_is_text (h : view g n v = some p) (hz : sm p = true) : f__law_is_text [v] g = .ok (.bl (textP p)) g := by
  apply eq_ok
  unfold f__law_is_text
  unfold b__law_is_text
  rcases view_inv h with ⟨rfl, rfl⟩ | ⟨b, rfl, rfl⟩ | ⟨b, rfl, rfl⟩ | ⟨s, rfl, rfl⟩ | ⟨m, ds, ps, e, rfl, rfl, h1⟩ | ⟨m, r, xs, ps, e, rfl, hx, rfl, h1⟩
  case inr.inr.inr.inl =>
    have hl := sm_str hz
    simp [lz, hl, isTy, textP]
    by_cases h6 : 60 < (s.length : Int)
    · simp [lz, h6]; omega
    · simp [lz, h6]
      refine wp_of signs_eq ?_
      refine look_all (good := fun d => match d with | .str [c] => okc c | _ => false) ?_ ?_ ?_
      · intro d hd
        obtain ⟨c, hc, rfl⟩ := List.mem_map.mp hd
        have := signs_okc c
        cases h1 : okc c with
        | true => rw [h1] at this; simp at this; simp [lz, this, h1]
        | false => rw [h1] at this; simp at this; simp [lz, this, h1]
      · intro ha ρ' _
        simp at ha ⊢
        exact ⟨by omega, ha⟩
      · intro ha
        simp at ha ⊢
        exact fun _ => ha
  case inr.inr.inr.inr.inr => simp [lz, ty_ref hx, isTy, textP]
  all_goals simp [lz, isTy, textP]
def isNon : P → Bool | .non => true | _ => false
theorem isN_view (h : view g n v = some p) : oIsN v .non g = some (.bl (isNon p)) := by
  rcases view_inv h with ⟨rfl, rfl⟩ | ⟨b, rfl, rfl⟩ | ⟨b, rfl, rfl⟩ | ⟨s, rfl, rfl⟩ | ⟨m, ds, ps, e, rfl, rfl, h1⟩ | ⟨m, r, xs, ps, e, rfl, hx, rfl, h1⟩ <;> rfl
theorem aboutP_eq (k : Nat) (p : P) : aboutP k p = (isNon p || nameP k p) := by cases p <;> rfl
theorem hd_0 : oIdx (HD os rs) (.int 0) g = some (.tup (os.map .str)) := rfl
theorem hd_1 : oIdx (HD os rs) (.int 1) g = some (.tup (rs.map fun r => .tup [.str r.1, .str r.2])) := rfl
theorem wp_law_deed {Q : D → G → Prop} (hr : rs.length ≤ 1000) (h : view g n v = some p) (hz : sm p = true) (k : ∀ g', Only [] g g' → Q (.bl (deedP os.length (rs.map (·.1)) p)) g') : wp (f__law_is_deed [HD os rs, v] g) Q := by
  unfold f__law_is_deed
  unfold b__law_is_deed
  have k0 := k g (Only.refl _ _)
  rcases view_inv h with ⟨rfl, rfl⟩ | ⟨b, rfl, rfl⟩ | ⟨b, rfl, rfl⟩ | ⟨s, rfl, rfl⟩ | ⟨m, ds, ps, e, rfl, rfl, h1⟩ | ⟨m, r, xs, ps, e, rfl, hx, rfl, h1⟩
  case inr.inr.inr.inr.inr => simp [ty_ref hx, isTy, deedP] at k0 ⊢; exact k0
  case inr.inr.inr.inr.inl =>
    rcases ds with _ | ⟨a, _ | ⟨b, r⟩⟩
    · rw [viewL_nil.mp h1] at k0; simp [isTy, deedP] at k0 ⊢; exact k0
    · obtain ⟨p, qs, rfl, h2, h3⟩ := viewL_cons.mp h1
      rw [viewL_nil.mp h3] at k0; simp [isTy, deedP] at k0 ⊢; exact k0
    · obtain ⟨p, qs, rfl, h2, h3⟩ := viewL_cons.mp h1
      obtain ⟨q, rs', rfl, h4, h5⟩ := viewL_cons.mp h3
      have hlen : ¬ ((r.length : Int) + 1 + 1 < 2) := by omega
      have t1 : isTy .tuple (some .tuple) = true := rfl
      simp [t1, hlen]
      unfold lz; simp
      cases hp : isS p with
      | false =>
        rw [deedP_no (.inl hp)] at k0
        simp [ty_is h2, isTy_str, hp, k0]
      | true =>
        cases hq : isS q with
        | false =>
          rw [deedP_no (.inr hq)] at k0
          simp [ty_is h2, ty_is h4, isTy_str, hp, hq, k0]
        | true =>
          obtain ⟨kd, rfl⟩ := isS_str hp
          obtain ⟨rm, rfl⟩ := isS_str hq
          have e1 := view_str h2; subst e1
          have e2 := view_str h4; subst e2
          have t2 : isTy .str (some .str) = true := rfl
          simp [t2]
          unfold lz; simp [hd_1]
          refine lc_by (fun i acc g' => g' = g ++ [.lst acc] ∧ acc = (rs.take i).map fun r => .str r.1) (fun _ _ _ _ => rfl) ?_ ?_ ?_ _ 0 [] _ rfl (Nat.zero_le _) ⟨rfl, by simp⟩
          · rintro i acc _ ⟨rfl, rfl⟩; simp
          · rintro i d acc _ hd ⟨rfl, rfl⟩
            rw [List.getElem?_map, Option.map_eq_some_iff] at hd
            obtain ⟨r, hr, rfl⟩ := hd
            simp [wipe]
            refine ⟨by unfold LINE; omega, ?_⟩
            rw [List.take_add_one, List.getElem?_map, hr]; rfl
          rintro acc g1 ⟨e1, e2⟩
          rw [show List.take (List.map (fun r : List Char × List Char => D.tup [.str r.1, .str r.2]) rs).length rs = rs by simp] at e2
          have hin : inD (.str rm) (.ref g.length) g1 = some (decide (rm ∈ rs.map (·.1))) := in_strs rm (by
            rw [e1, ref_room, e2, List.map_map]; rfl)
          have ex : Only [] g g1 := by rw [e1]; exact Only.snoc _ _ _
          clear e1 e2
          have k1 := k _ ex
          simp only [deedP] at k1
          simp [hin]
          by_cases hm : rm ∈ rs.map (·.1)
          · rw [decide_eq_true hm] at k1 ⊢
            simp only [Bool.true_and] at k1
            simp
            have w : inD (.str kd) (.ref g1.length) (g1 ++ [.lst [.str ['r', 'e', 'a', 'd'], .str ['c', 'o', 'm', 'e'], .str ['g', 'o']]]) = some (decide (kd ∈ [['r', 'e', 'a', 'd'], ['c', 'o', 'm', 'e'], ['g', 'o']])) := in_strs (ss := [['r', 'e', 'a', 'd'], ['c', 'o', 'm', 'e'], ['g', 'o']]) kd (ref_room _ _)
            have ex2 : Only [] g (g1 ++ [.lst [.str ['r', 'e', 'a', 'd'], .str ['c', 'o', 'm', 'e'], .str ['g', 'o']]]) := ex.trans (Only.snoc _ _ _)
            have k2 := k _ ex2
            simp only [deedP, decide_eq_true hm, Bool.true_and] at k2
            have hl := viewL_len h5
            unfold lz; simp
            rw [ite2]
            by_cases c1 : kd = ['s', 'a', 'y'] ∧ (r.length : Int) + 1 + 1 = 4
            · rw [if_pos c1]
              rcases r with _ | ⟨x, _ | ⟨y, _ | ⟨z, r⟩⟩⟩
              · simp at c1
              · simp at c1
              · obtain ⟨p1, qs1, rfl, a1, a2⟩ := viewL_cons.mp h5
                obtain ⟨p2, qs2, rfl, b1, b2⟩ := viewL_cons.mp a2
                rw [viewL_nil.mp b2] at k1 hz
                have z2 : sm p2 = true := by simp [sm, sms] at hz; exact hz.2.2.2
                have v1 := isN_view (ex.ext.view a1)
                have v2 := law_is_name (os := os) (rs := rs) (ex.ext.view a1)
                have v3 := law_is_text (ex.ext.view b1) z2
                rw [if_pos c1.1] at k1
                simp [aboutP_eq] at k1
                cases h1' : isNon p1 with
                | true => rw [h1'] at v1; simp [h1'] at k1; simp [v1, v3, k1]
                | false =>
                  cases h2' : nameP os.length p1 <;> rw [h1'] at v1 <;> rw [h2'] at v2 <;> simp [h1', h2'] at k1 <;> simp [v1, v2, v3, k1]
              · exfalso; simp at c1; omega
            rw [if_neg c1]
            unfold lz; simp
            rw [ite2]
            by_cases c2 : kd = ['e', 'd', 'i', 't'] ∧ (r.length : Int) + 1 + 1 = 5
            · rw [if_pos c2]
              have c1' : ¬ kd = ['s', 'a', 'y'] := by rw [c2.1]; decide
              rw [if_neg c1', if_pos c2.1] at k1
              rcases r with _ | ⟨x, _ | ⟨y, _ | ⟨z, _ | ⟨z', r⟩⟩⟩⟩
              · simp at c2
              · simp at c2
              · simp at c2
              · obtain ⟨p1, qs1, rfl, a1, a2⟩ := viewL_cons.mp h5
                obtain ⟨p2, qs2, rfl, b1, b2⟩ := viewL_cons.mp a2
                obtain ⟨p3, qs3, rfl, d1, d2⟩ := viewL_cons.mp b2
                rw [viewL_nil.mp d2] at k1 hz
                have z2 : sm p3 = true := by simp [sm, sms] at hz; exact hz.2.2.2.2
                have v0 := law_is_name (os := os) (rs := rs) (ex.ext.view a1)
                have v1 := isN_view (ex.ext.view b1)
                have v2 := law_is_name (os := os) (rs := rs) (ex.ext.view b1)
                have v3 := law_is_text (ex.ext.view d1) z2
                simp [aboutP_eq] at k1
                cases h0' : nameP os.length p1 with
                | false => rw [h0'] at v0; simp [h0'] at k1; simp [v0, k1]
                | true =>
                  rw [h0'] at v0
                  cases h3' : textP p3 with
                  | false => rw [h3'] at v3; simp [h3'] at k1; simp [v0, v3, k1]
                  | true =>
                    rw [h3'] at v3
                    simp [v0, v3]
                    unfold lz
                    cases h1' : isNon p2 with
                    | true => rw [h1'] at v1; simp [h0', h1', h3'] at k1; simp [v1, k1]
                    | false => rw [h1'] at v1; simp [h0', h1', h3'] at k1; simp [v1, v2, k1]
              · exfalso; simp at c2; omega
            rw [if_neg c2]
            unfold lz; simp
            rw [ite2]
            by_cases c3 : kd = ['d', 'r', 'o', 'p'] ∧ (r.length : Int) + 1 + 1 = 3
            · rw [if_pos c3]
              have c1' : ¬ kd = ['s', 'a', 'y'] := by rw [c3.1]; decide
              have c2' : ¬ kd = ['e', 'd', 'i', 't'] := by rw [c3.1]; decide
              rw [if_neg c1', if_neg c2', if_pos c3.1] at k1
              rcases r with _ | ⟨x, _ | ⟨y, r⟩⟩
              · simp at c3
              · obtain ⟨p1, qs1, rfl, a1, a2⟩ := viewL_cons.mp h5
                rw [viewL_nil.mp a2] at k1
                have v1 := law_is_name (os := os) (rs := rs) (ex.ext.view a1)
                simp at k1
                simp [v1, k1]
              · exfalso; simp at c3; omega
            rw [if_neg c3]
            unfold lz
            simp [w, LINE]
            have hl' : ((r.length : Int) + 1 + 1 == 2) = rs'.isEmpty := by
              cases rs' with
              | nil => simp at hl ⊢; omega
              | cons _ _ => simp at hl ⊢; omega
            rw [hl']
            by_cases d1 : kd = ['s', 'a', 'y']
            · subst d1
              have : ∀ x y : P, rs' ≠ [x, y] := by rintro x y rfl; simp at hl c1; omega
              rw [if_pos rfl] at k2
              rcases rs' with _ | ⟨x, _ | ⟨y, _ | ⟨z, qs⟩⟩⟩
              · simpa using k2
              · simpa using k2
              · exact absurd rfl (this x y)
              · simpa using k2
            rw [if_neg d1] at k2
            by_cases d2 : kd = ['e', 'd', 'i', 't']
            · subst d2
              have : ∀ x y z : P, rs' ≠ [x, y, z] := by rintro x y z rfl; simp at hl c2; omega
              rw [if_pos rfl] at k2
              rcases rs' with _ | ⟨x, _ | ⟨y, _ | ⟨z, _ | ⟨u, qs⟩⟩⟩⟩
              · simpa using k2
              · simpa using k2
              · simpa using k2
              · exact absurd rfl (this x y z)
              · simpa using k2
            rw [if_neg d2] at k2
            by_cases d3 : kd = ['d', 'r', 'o', 'p']
            · subst d3
              have : ∀ x : P, rs' ≠ [x] := by rintro x rfl; simp at hl c3; omega
              rw [if_pos rfl] at k2
              rcases rs' with _ | ⟨x, _ | ⟨y, qs⟩⟩
              · simpa using k2
              · exact absurd rfl (this x)
              · simpa using k2
            rw [if_neg d3] at k2
            by_cases c4 : kd = ['r', 'e', 'a', 'd'] ∨ kd = ['c', 'o', 'm', 'e'] ∨ kd = ['g', 'o']
            · rw [if_pos c4]
              have : (decide (kd = ['r', 'e', 'a', 'd']) || decide (kd = ['c', 'o', 'm', 'e']) || decide (kd = ['g', 'o'])) = true := by simp [or_assoc]; exact c4
              rw [this] at k2
              simpa using k2
            · rw [if_neg c4]
              have : (decide (kd = ['r', 'e', 'a', 'd']) || decide (kd = ['c', 'o', 'm', 'e']) || decide (kd = ['g', 'o'])) = false := by simp; exact ⟨⟨fun h => c4 (.inl h), fun h => c4 (.inr (.inl h))⟩, fun h => c4 (.inr (.inr h))⟩
              rw [this] at k2
              simpa using k2
          · rw [decide_eq_false hm] at k1 ⊢
            simp at k1 ⊢
            exact k1
  all_goals (simp [isTy, deedP] at k0 ⊢; exact k0)
theorem wp_law_shape {Q : D → G → Prop} (hr : rs.length ≤ 1000) (h : view g n v = some p) (hz : sm p = true) (k : ∀ g', Only [] g g' → Q (.bl (shapeP os.length (rs.map (·.1)) p)) g') : wp (f__law_shape [HD os rs, v] g) Q := by
  unfold f__law_shape
  unfold b__law_shape
  have k0 := k g (Only.refl _ _)
  have t1 : isTy .tuple (some .tuple) = true := rfl
  rcases view_inv h with ⟨rfl, rfl⟩ | ⟨b, rfl, rfl⟩ | ⟨b, rfl, rfl⟩ | ⟨s, rfl, rfl⟩ | ⟨m, ds, ps, e, rfl, rfl, h1⟩ | ⟨m, r, xs, ps, e, rfl, hx, rfl, h1⟩
  case inr.inr.inr.inr.inr => simp [ty_ref hx, isTy, shapeP] at k0 ⊢; exact k0
  case inr.inr.inr.inr.inl =>
    rcases ds with _ | ⟨a, _ | ⟨b, _ | ⟨c, _ | ⟨d, _ | ⟨d', r⟩⟩⟩⟩⟩
    · rw [viewL_nil.mp h1] at k0; simp [t1, shapeP] at k0 ⊢; exact k0
    · obtain ⟨p1, qs1, rfl, a1, a2⟩ := viewL_cons.mp h1
      rw [viewL_nil.mp a2] at k0; simp [t1, shapeP] at k0 ⊢; exact k0
    · obtain ⟨p1, qs1, rfl, a1, a2⟩ := viewL_cons.mp h1
      obtain ⟨p2, qs2, rfl, b1, b2⟩ := viewL_cons.mp a2
      rw [viewL_nil.mp b2] at k0; simp [t1, shapeP] at k0 ⊢; exact k0
    · obtain ⟨p1, qs1, rfl, a1, a2⟩ := viewL_cons.mp h1
      obtain ⟨p2, qs2, rfl, b1, b2⟩ := viewL_cons.mp a2
      obtain ⟨p3, qs3, rfl, d1, d2⟩ := viewL_cons.mp b2
      rw [viewL_nil.mp d2] at k0; simp [t1, shapeP] at k0 ⊢; exact k0
    · obtain ⟨p1, qs1, rfl, a1, a2⟩ := viewL_cons.mp h1
      obtain ⟨p2, qs2, rfl, b1, b2⟩ := viewL_cons.mp a2
      obtain ⟨p3, qs3, rfl, d1, d2⟩ := viewL_cons.mp b2
      obtain ⟨p4, qs4, rfl, e1, e2⟩ := viewL_cons.mp d2
      rw [viewL_nil.mp e2] at k0 hz k
      simp only [shapeP] at k0 k
      simp [t1]
      unfold lz
      have vn : view g (m + 1) (.tup [a, b]) = some (.tup [p1, p2]) := by
        simp only [view]
        rw [viewL_cons.mpr ⟨p1, [p2], rfl, a1, viewL_cons.mpr ⟨p2, [], rfl, b1, rfl⟩⟩]; rfl
      have v1 := law_is_name (os := os) (rs := rs) vn
      cases c1 : nameP os.length (.tup [p1, p2]) with
      | false => rw [c1] at v1; simp [c1] at k0; simp [LINE, v1, k0]
      | true =>
        rw [c1] at v1
        simp [LINE, v1]
        unfold lz; simp
        rw [c1] at k k0
        simp only [Bool.true_and] at k k0
        rcases view_inv d1 with ⟨rfl, rfl⟩ | ⟨_, rfl, rfl⟩ | ⟨_, rfl, rfl⟩ | ⟨_, rfl, rfl⟩ | ⟨j, ds, ps, e, rfl, rfl, hd1⟩ | ⟨j, r, xs, ps, e, rfl, hx, rfl, hd1⟩
        case inr.inr.inr.inr.inr => simp [ty_ref hx, isTy, timesP] at k0 ⊢; exact k0
        case inr.inr.inr.inr.inl =>
          have hl := viewL_len hd1
          by_cases h2 : (ds.length : Int) = os.length
          · simp [lz, isTy, hd_0, h2]
            have h3 : ds.length = os.length := by omega
            refine look_all (good := fun d => match view g j d with | some p => numP p | none => false) ?_ ?_ ?_
            · intro d hd
              obtain ⟨i, hi⟩ := List.mem_iff_getElem?.mp hd
              obtain ⟨p, hp, hv⟩ := viewL_get hd1 hi
              cases hq : isI p with
              | false =>
                have : numP p = false := by cases p <;> simp [lz, numP, isI] at hq ⊢
                have e2 := law_is_int hv
                rw [hq] at e2
                simp [lz, e2, hv, this]
              | true =>
                obtain ⟨z, rfl⟩ := isI_int hq
                have e2 := view_int hv
                subst e2
                by_cases h6 : z < 0
                · simp [lz, law_is_int hv, isI, hv, numP, h6]
                · simp [lz, law_is_int hv, isI, hv, numP, h6]; omega
            · intro ha ρ' hρ
              have ha := (all_views (q := numP) hd1).symm.trans ha
              have ht : timesP os.length (.tup ps) = true := by simp [timesP]; simp at ha; exact ⟨by omega, ha⟩
              rw [ht] at k
              simp only [Bool.true_and] at k
              have e0 : ρ'[0]? = some (some (HD os rs)) ∧ ρ'[1]? = some (some (.tup [a, b, .tup ds, d])) := by
                rcases hρ with rfl | ⟨d, rfl⟩ <;> simp
              simp [e0.1, e0.2]
              exact wp_law_deed hr e1 (by simp [sm, sms] at hz; exact hz.2.2.2) fun g' hg => k g' hg
            · intro ha
              have ha := (all_views (q := numP) hd1).symm.trans ha
              have ht : timesP os.length (.tup ps) = false := by simp [timesP]; simp at ha; exact fun _ => ha
              rw [ht] at k0
              simpa using k0
          · have h3 : ¬ ds.length = os.length := by omega
            simp [timesP, hl, h3] at k0
            simp [isTy, hd_0, h2, k0]
        all_goals (simp [isTy, timesP] at k0 ⊢; exact k0)
    · obtain ⟨p1, qs1, rfl, a1, a2⟩ := viewL_cons.mp h1
      obtain ⟨p2, qs2, rfl, b1, b2⟩ := viewL_cons.mp a2
      obtain ⟨p3, qs3, rfl, d1, d2⟩ := viewL_cons.mp b2
      obtain ⟨p4, qs4, rfl, e1, e2⟩ := viewL_cons.mp d2
      obtain ⟨p5, qs5, rfl, f1, f2⟩ := viewL_cons.mp e2
      have : ¬ ((r.length : Int) + 1 + 1 + 1 + 1 + 1 = 4) := by omega
      simp [t1, shapeP, this] at k0 ⊢; exact k0
  all_goals (simp [isTy, shapeP] at k0 ⊢; exact k0)
end
end K02
end

section
set_option autoImplicit false
set_option linter.all false
namespace K02
open Py
section
variable {n : Nat} {g : G} {v w : D} {p : P} {os : List (List Char)} {rs : List (List Char × List Char)}
theorem loop_same {k : Nat} {as bs : List D} {ps : List P} {n1 n2 : Nat} {f1 f2 : D} (h1 : viewL (view g n1) as = some ps) (h2 : viewL (view g n2) bs = some ps)
    (hf1 : ∀ i : Nat, oIdx f1 (.int i) g = as[i]?) (hf2 : ∀ i : Nat, oIdx f2 (.int i) g = bs[i]?)
    (ih : ∀ (n1 n2 : Nat) (v w : D) (p : P), view g n1 v = some p → view g n2 w = some p → n1 < k → sm p = true → f__law_same k [v, w] g = .ok (.bl true) g) (hk : n1 < k) (hl : as.length ≤ 100000) (sz : ∀ q ∈ ps, sm q = true) {κ : Kt} (q : ∀ y, κ.nx [some f1, some f2, y] g) (x : Option D) :
    wpS (forGo (itL (rng 0 bs.length)).get (gName 2) (sIf (tNot (tVal (mCall (f__law_same k) (mCons (mOp (p2 oIdx) (mVar 0) (mVar 2)) (mCons (mOp (p2 oIdx) (mVar 1) (mVar 2)) (mNil)))))) (sRet (mC (.bl false))) (sNil)) ((itL (rng 0 bs.length)).n + 1) 0 [some f1, some f2, x] g) κ := by
  refine for_itL (fun i ρ g' => g' = g ∧ ∃ y, ρ = [some f1, some f2, y]) ⟨rfl, x, rfl⟩ ?_ ?_
  · rintro i d ρ _ hd ⟨rfl, y, rfl⟩
    obtain ⟨hi, rfl⟩ := rng_at hd
    refine ⟨_, rfl, ?_⟩
    have l1 := viewL_len h1
    have l2 := viewL_len h2
    obtain ⟨q1, e1, e2⟩ := viewL_get h1 (List.getElem?_eq_getElem (l := as) (i := i) (by omega))
    obtain ⟨q2, e3, e4⟩ := viewL_get h2 (List.getElem?_eq_getElem (l := bs) (i := i) (by omega))
    rw [e1] at e3
    cases e3
    have a1 := hf1 i
    have a2 := hf2 i
    rw [List.getElem?_eq_getElem (by omega)] at a1 a2
    simp [a1, a2, ih _ _ _ _ _ e2 e4 hk (sz _ (List.mem_of_getElem? e1))]
  · rintro ρ _ ⟨rfl, y, rfl⟩
    exact q y
end
theorem same_true : ∀ (k : Nat) {n1 n2 : Nat} {g : G} {v w : D} {p : P}, view g n1 v = some p → view g n2 w = some p → n1 < k → sm p = true → f__law_same k [v, w] g = .ok (.bl true) g := by
  intro k
  induction k with
  | zero => intro n1 n2 g v w p _ _ h _; omega
  | succ k ih =>
    intro n1 n2 g v w p h h' hk hz
    apply eq_ok
    unfold f__law_same
    unfold b__law_same
    rcases view_inv h with ⟨rfl, rfl⟩ | ⟨b, rfl, rfl⟩ | ⟨b, rfl, rfl⟩ | ⟨s, rfl, rfl⟩ | ⟨m, ds, ps, e, rfl, rfl, h1⟩ | ⟨m, r, xs, ps, e, rfl, hx, rfl, h1⟩
    · have := view_non h'; subst this; simp
    · have : w = .bl b := by
        rcases view_inv h' with ⟨rfl, e⟩ | ⟨b, rfl, e⟩ | ⟨b, rfl, e⟩ | ⟨s, rfl, e⟩ | ⟨m, ds, ps, _, rfl, e, h1⟩ | ⟨m, r, xs, ps, _, rfl, hx, e, h1⟩ <;> cases e
        rfl
      subst this; simp [isTy]; repeat (unfold lz; simp [isTy])
    · have := view_int h'; subst this; simp [isTy]; repeat (unfold lz; simp [isTy])
    · have := view_str h'; subst this; simp [isTy]; repeat (unfold lz; simp [isTy])
    · rcases view_inv h' with ⟨rfl, e⟩ | ⟨b, rfl, e⟩ | ⟨b, rfl, e⟩ | ⟨s, rfl, e⟩ | ⟨m2, ds2, ps2, e2, rfl, e, h2⟩ | ⟨m2, r2, xs, ps2, _, rfl, hx, e, h2⟩ <;> cases e
      have l1 := viewL_len h1
      have l2 := viewL_len h2
      have l3 : (ds.length : Int) = ds2.length := by omega
      have z : ds.length ≤ 100000 ∧ sms ps = true := by simp [sm] at hz; exact ⟨by omega, hz.2⟩
      simp [isTy]
      repeat (unfold lz; simp [isTy, l3])
      refine ⟨small_int (by omega) (by omega), ?_⟩
      have hl : ds2.length = ds.length := by omega
      exact loop_same (f1 := .tup ds) (f2 := .tup ds2) h1 h2 (fun i => atI_nat _ _) (fun i => atI_nat _ _) (fun n1 n2 v w p => ih) (by omega) z.1 (fun q hq => sm_mem z.2 hq) (fun _ => rfl) none
    · rcases view_inv h' with ⟨rfl, e⟩ | ⟨b, rfl, e⟩ | ⟨b, rfl, e⟩ | ⟨s, rfl, e⟩ | ⟨m2, ds2, ps2, e2, rfl, e, h2⟩ | ⟨m2, r2, ys, ps2, _, rfl, hy, e, h2⟩ <;> cases e
      have l1 := viewL_len h1
      have l2 := viewL_len h2
      have l3 : (xs.length : Int) = ys.length := by omega
      have z : xs.length ≤ 100000 ∧ sms ps = true := by simp [sm] at hz; exact ⟨by omega, hz.2⟩
      simp [isTy, ty_ref hy]
      repeat (unfold lz; simp [isTy, l3, ty_ref hx, ty_ref hy, len_ref hx, len_ref hy])
      refine ⟨small_int (by omega) (by omega), ?_⟩
      exact loop_same h1 h2 (fun i => by rw [idx_ref _ hx, atI_nat]) (fun i => by rw [idx_ref _ hy, atI_nat]) (fun n1 n2 v w p => ih) (by omega) z.1 (fun q hq => sm_mem z.2 hq) (fun _ => rfl) none
def CopyOk (k : Nat) : Prop := ∀ (n : Nat) (g : G) (v : D) (p : P), view g n v = some p → n < k → sm p = true → wp (f__law_copy k [v] g) fun v' g' => Only [] g g' ∧ ∀ ws : List Nat, (∀ i ∈ ws, i < g.length) → vx ws g' n v' = some p
theorem copy_lc {k m : Nat} {g : G} {ds : List D} {ps : List P} {it : Nat → G → Option (Option D)} {x y : Option D} (ih : CopyOk k) (h : viewL (view g m) ds = some ps) (hk : m < k) (hz : sms ps = true) (hl : ds.length ≤ 100000)
    (hit : ∀ i g', Only [] g g' → it i g' = some ds[i]?) {Q : D → G → Prop}
    (q : ∀ g' acc, Only [] g g' → g'[g.length]? = some (.lst acc) → (∀ ws : List Nat, (∀ i ∈ ws, i < g.length) → viewL (vx ws g' m) acc = some ps) → Q (.ref g.length) g') :
    wp (lcGo it (gName 1) tYes (mCall (f__law_copy k) (mCons (mVar 1) mNil)) [x, y] g.length (ds.length + 1) 0 (g ++ [.lst []])) Q := by
  have l := viewL_len h
  refine lc_by (ds := ds) (fun i acc g' => g'[g.length]? = some (.lst acc) ∧ Only [] g g' ∧ acc.length = i ∧ ∀ ws : List Nat, (∀ j ∈ ws, j ≤ g.length) → viewL (vx ws g' m) acc = some (ps.take i)) (fun i acc g' h => hit i g' h.2.1) (fun _ _ _ h => h.1) ?_ ?_ _ 0 [] _ rfl (Nat.zero_le _) ⟨get_snoc _ _, Only.snoc _ _ _, rfl, fun _ _ => rfl⟩
  · rintro i d acc g' hd ⟨h1, h2, h3, h4⟩
    have hi := (List.getElem?_eq_some_iff.mp hd).1
    obtain ⟨p, e1, e2⟩ := viewL_get h hd
    refine ⟨_, rfl, ?_⟩
    simp
    refine wp_imp (ih m g' d p (h2.ext.view e2) hk (sm_mem hz (List.mem_of_getElem? e1))) ?_
    rintro v' g2 ⟨o2, hv⟩
    have hr := (List.getElem?_eq_some_iff.mp h1).1
    have o3 : Only [g.length] g2 (g2.set g.length (.lst (acc ++ [v']))) := Only.set (.inl (by simp)) _
    refine ⟨acc, o2.get h1 (by simp), by unfold LINE; omega, ?_, (h2.trans o2).then o3 (by simp), by simp [h3], ?_⟩
    · rw [List.getElem?_set_self (by have := o2.len; omega)]
    · intro ws hw
      rw [List.take_add_one, e1]
      refine viewL_snoc ?_ ?_
      · refine viewL_mono (fun d p hd => ?_) (h4 (g.length :: ws) (by simpa using hw))
        exact vx_go (ws := g.length :: ws) o3 (by simp) (fun i hi => .inl (by simp [hi])) (vx_go (ws := g.length :: ws) o2 (by simp) (fun i hi => .inl hi) hd)
      · refine vx_go (ws := g.length :: ws) o3 (by simp) (fun i hi => .inl (by simp [hi])) (hv _ ?_)
        intro i hi
        rcases List.mem_cons.mp hi with rfl | hi
        · exact hr
        · have := hw i hi; omega
  · rintro acc g' ⟨h1, h2, h3, h4⟩
    refine q g' acc h2 h1 fun ws hw => ?_
    have := h4 ws fun i hi => by have := hw i hi; omega
    rw [← l, List.take_length] at this
    exact this
theorem copy_ok : ∀ k, CopyOk k := by
  intro k
  induction k with
  | zero => intro n g v p _ h; omega
  | succ k ih =>
    intro n g v p h hk hz
    unfold f__law_copy
    unfold b__law_copy
    rcases view_inv h with ⟨rfl, rfl⟩ | ⟨b, rfl, rfl⟩ | ⟨b, rfl, rfl⟩ | ⟨s, rfl, rfl⟩ | ⟨m, ds, ps, e, rfl, rfl, h1⟩ | ⟨m, r, xs, ps, e, rfl, hx, rfl, h1⟩
    · simp [isTy]; unfold lz; simp [isTy]; unfold lz; simp [vx]; exact Only.refl _ _
    · simp [isTy]; unfold lz; simp [isTy]; unfold lz; simp [vx]; exact Only.refl _ _
    · simp [isTy]; unfold lz; simp [isTy]; unfold lz; simp [vx]; exact Only.refl _ _
    · simp [isTy]; unfold lz; simp [isTy]; unfold lz; simp [vx]; exact Only.refl _ _
    · have l := viewL_len h1
      have z : ds.length ≤ 100000 ∧ sms ps = true := by simp [sm] at hz; exact ⟨by omega, hz.2⟩
      subst e
      simp [isTy]; unfold lz; simp [isTy]
      refine copy_lc ih h1 (by omega) z.2 z.1 (fun _ _ _ => rfl) fun g' acc o a q => ?_
      rw [tuple_ref (lstOf_lst a)]
      simp
      exact ⟨o, fun ws hw => vx_tup (q ws hw)⟩
    · have l := viewL_len h1
      have z : xs.length ≤ 100000 ∧ sms ps = true := by simp [sm] at hz; exact ⟨by omega, hz.2⟩
      subst e
      simp [isTy, ty_ref hx, iter_ref hx]
      refine copy_lc ih h1 (by omega) z.2 z.1 (fun i g' o => by show (lstOf (.ref r) g').map (fun xs => xs[i]?) = _; rw [o.lst hx (by simp)]; rfl) fun g' acc o a q => ?_
      refine ⟨o, fun ws hw => vx_lst (fun hm => ?_) (lstOf_lst a) (q ws hw)⟩
      have := hw _ hm
      omega
end K02
end

section
set_option autoImplicit false
set_option linter.all false
namespace K02
open Py
mutual
def smz (m : Nat) : P → Bool
  | .str s => decide (s.length ≤ m)
  | .tup ps => decide (ps.length ≤ m) && smzs m ps
  | .lst ps => decide (ps.length ≤ m) && smzs m ps
  | _ => true
def smzs (m : Nat) : List P → Bool
  | [] => true
  | p :: r => smz m p && smzs m r
end
mutual
theorem smz_mono {m k : Nat} (h : m ≤ k) : ∀ p : P, smz m p = true → smz k p = true
  | .str s, e => by simp [smz] at e ⊢; omega
  | .tup ps, e => by simp [smz] at e ⊢; exact ⟨by omega, smzs_mono h ps e.2⟩
  | .lst ps, e => by simp [smz] at e ⊢; exact ⟨by omega, smzs_mono h ps e.2⟩
  | .non, _ => rfl
  | .bl _, _ => rfl
  | .int _, _ => rfl
theorem smzs_mono {m k : Nat} (h : m ≤ k) : ∀ p : List P, smzs m p = true → smzs k p = true
  | [], _ => rfl
  | p :: r, e => by simp [smzs] at e ⊢; exact ⟨smz_mono h p e.1, smzs_mono h r e.2⟩
end
mutual
theorem smz_sm : ∀ p : P, smz 100000 p = true → sm p = true
  | .str s, e => by simp [smz, sm] at e ⊢; omega
  | .tup ps, e => by simp [smz, sm] at e ⊢; exact ⟨by omega, smzs_sms ps e.2⟩
  | .lst ps, e => by simp [smz, sm] at e ⊢; exact ⟨by omega, smzs_sms ps e.2⟩
  | .non, _ => rfl
  | .bl _, _ => rfl
  | .int _, _ => rfl
theorem smzs_sms : ∀ p : List P, smzs 100000 p = true → sms p = true
  | [], _ => rfl
  | p :: r, e => by simp [smzs, sms] at e ⊢; exact ⟨smz_sm p e.1, smzs_sms r e.2⟩
end
theorem smzs_mem {m : Nat} {p : P} : ∀ {ps : List P}, smzs m ps = true → p ∈ ps → smz m p = true
  | [], _, h => by cases h
  | q :: r, h, hm => by
    simp [smzs] at h
    rcases List.mem_cons.mp hm with e | hm
    · rw [e]; exact h.1
    · exact smzs_mem h.2 hm
theorem smzs_of {m : Nat} : ∀ {ps : List P}, (∀ p ∈ ps, smz m p = true) → smzs m ps = true
  | [], _ => rfl
  | q :: r, h => by simp [smzs]; exact ⟨h q (by simp), smzs_of fun p hp => h p (by simp [hp])⟩
section
variable {n : Nat} {g : G} {v w : D} {p : P} {os : List (List Char)} {rs : List (List Char × List Char)}
theorem same_bl (b : Bool) (g : G) : f__law_same 8 [.bl b, .bl b] g = .ok (.bl true) g := same_true 8 (n1 := 0) (n2 := 0) (p := .bl b) (by simp [view]) (by simp [view]) (by omega) rfl
theorem judged_ok {Q : D → G → Prop} (hr : rs.length ≤ 1000) (h : view g n v = some p) (hn : n < 8) (hz : sm p = true) (q : ∀ g', Only [] g g' → Q (.bl true) g') : wp (f__law_judged [HD os rs, v] g) Q := by
  unfold f__law_judged
  unfold b__law_judged
  simp
  refine wp_imp (copy_ok 8 n g v p h hn hz) ?_
  rintro v' g1 ⟨o1, hv⟩
  have hv := vx_view (hv [] (by simp))
  unfold lz; simp
  refine wp_shape hr (o1.ext.view h) hz fun g2 p2 => ?_
  have o2 := o1.trans p2
  refine wp_law_shape hr (o2.ext.view h) hz fun g3 o3 => ?_
  have o3' := o2.trans o3
  simp [same_bl]
  unfold lz; simp [is_name (os := os) (rs := rs) (o3'.ext.view h), law_is_name (os := os) (rs := rs) (o3'.ext.view h), same_bl]
  unfold lz; simp [is_text' (o3'.ext.view h) hz, law_is_text (o3'.ext.view h) hz, same_bl]
  unfold lz; simp [same_true 8 (o3'.ext.view h) ((p2.trans o3).ext.view hv) hn hz]
  exact q _ o3'
/-- the greatest of the times -/
def mx : List Int → Int
  | [] => 0
  | [i] => i
  | i :: r => if i < mx r then mx r else i
theorem maxI_eq : ∀ (ns : List Int), ns ≠ [] → maxI ns = some (mx ns)
  | [], h => absurd rfl h
  | [i], _ => rfl
  | i :: j :: r, _ => by
    have := maxI_eq (j :: r) (by simp)
    unfold maxI
    rw [this]
    simp [mx]
theorem allI_int (ns : List Int) : allI (ns.map .int) = some ns := by
  induction ns with
  | nil => rfl
  | cons i r ih => simp [allI, ih]
theorem max_tup (ns : List Int) (h : ns ≠ []) : oMaxL (.tup (ns.map .int)) g = some (.int (mx ns)) := by
  unfold oMaxL seqOf
  simp [allI_int, maxI_eq ns h]
/-- a deed as the generator makes them -/
structure Deed (e : D) : Prop where
  is : ∃ kd rm r ps, e = .tup (.str kd :: .str rm :: r) ∧ viewL (view [] 1) r = some ps ∧ smzs 61 ps = true ∧ ps.length ≤ 59 ∧ kd.length ≤ 61 ∧ rm.length ≤ 61 ∧ (kd = ['e', 'd', 'i', 't'] ∨ kd = ['d', 'r', 'o', 'p'] → r ≠ [])
theorem has_seen_ok {t d : Int} {a b : D} {ns : List Int} {z : D} {y : Int} (h0 : 0 ≤ d) (hy : ns[d.toNat]? = some y) : f_has_seen [.tup [a, b, .tup (ns.map .int), z], .tup [.int t, .int d]] g = .ok (.bl (decide (t ≤ y))) g := by
  apply eq_ok
  unfold f_has_seen
  unfold b_has_seen
  simp [atI_int _ h0, hy]
theorem name_of_ok {a b : Int} {c d : D} : f_name_of [.tup [.int a, .int b, c, d]] g = .ok (.tup [.int a, .int b]) g := by
  apply eq_ok
  unfold f_name_of
  unfold b_name_of
  simp [LINE]
theorem read_ok {Q : D → G → Prop} {t d : Int} {ns : List Int} {e : D} (hns : ns ≠ []) (hl : ns.length ≤ 1000) (he : Deed e) (q : ∀ g', Only [] g g' → Q (.bl true) g') :
    wp (f__law_read [HD os rs, .tup [.int t, .int d, .tup (ns.map .int), e]] g) Q := by
  unfold f__law_read
  unfold b__law_read
  simp [max_tup _ hns]
  unfold lz; simp
  unfold lz; simp [LINE]
  unfold lz; simp
  obtain ⟨kd, rm, r, ps, rfl, h1, h2', h3, h4, h5, h6⟩ := he.is
  have h2 : sms ps = true := smzs_sms ps (smzs_mono (by omega) ps h2')
  unfold lz; simp
  generalize hT : mx ns + 1 + t = T
  have sn : f__law_same 8 [.tup [.int T, .int d], .tup [.int T, .int d]] g = .ok (.bl true) g := same_true 8 (n1 := 1) (n2 := 1) (p := .tup [.int T, .int d]) rfl rfl (by omega) (by simp [sm, sms])
  have loop : ∀ (m : D), lz q3__law_read [some (HD os rs), some (.tup [.int t, .int d, .tup (ns.map .int), .tup (.str kd :: .str rm :: r)]), some (.int T), some (.tup [.int T, .int d, .tup (ns.map .int), .tup (.str kd :: .str rm :: r)]), some (.tup (.str kd :: .str rm :: r)), some m, none, none, none] g
    ⟨fun _ g => Q .non g, Q, fun _ _ => False, fun _ _ => False⟩ := by
    intro m
    unfold lz
    simp
    refine ⟨small_int (by omega) (by omega), ?_⟩
    refine for_itL (fun i ρ g' => Only [] g g' ∧ ∃ y1 y2 y3, ρ = [some (HD os rs), some (.tup [.int t, .int d, .tup (ns.map .int), .tup (.str kd :: .str rm :: r)]), some (.int T), some (.tup [.int T, .int d, .tup (ns.map .int), .tup (.str kd :: .str rm :: r)]), some (.tup (.str kd :: .str rm :: r)), some m, y1, y2, y3]) ⟨Only.refl _ _, none, none, none, rfl⟩ ?_ ?_
    · rintro j dj ρ g' hd ⟨o, y1, y2, y3, rfl⟩
      obtain ⟨hj, rfl⟩ := rng_at hd
      refine ⟨_, rfl, ?_⟩
      have hy : ns[j]? = some (ns[j]'hj) := List.getElem?_eq_getElem hj
      generalize ns[j]'hj = y at hy
      have hs : ∀ (z : Int) (g : G), f_has_seen [.tup [.int T, .int d, .tup (ns.map .int), .tup (.str kd :: .str rm :: r)], .tup [.int z, .int j]] g = .ok (.bl (decide (z ≤ y))) g := fun z g => has_seen_ok (by omega) (by simpa using hy)
      simp [atI_nat, hy]
      unfold lz
      simp [LINE, iter_ref (lstOf_lst (get_snoc _ _))]
      refine for_itR (ds := [.int 1, .int (y - 1), .int y, .int (y + 1), .int T]) (fun i ρ g2 => g2 = g' ++ [.lst [.int 1, .int (y - 1), .int y, .int (y + 1), .int T]] ∧ ∃ y3, ρ = [some (HD os rs), some (.tup [.int t, .int d, .tup (ns.map .int), .tup (.str kd :: .str rm :: r)]), some (.int T), some (.tup [.int T, .int d, .tup (ns.map .int), .tup (.str kd :: .str rm :: r)]), some (.tup (.str kd :: .str rm :: r)), some m, some (.int (0 + j)), some (.int y), y3]) ⟨rfl, y3, by simp⟩ ?_ ?_ ?_
      · rintro i ρ g2 ⟨rfl, _⟩
        exact lstOf_lst (get_snoc _ _)
      · rintro i di ρ _ hdi ⟨rfl, y4, rfl⟩
        obtain ⟨z, rfl⟩ : ∃ z, di = .int z := by
          have := List.mem_of_getElem? hdi
          simp at this
          rcases this with h | h | h | h | h <;> exact ⟨_, h⟩
        refine ⟨_, rfl, ?_⟩
        by_cases h1 : 1 ≤ z
        · simp [h1, LINE, hs, same_bl]
        · simp [h1]
      · rintro ρ _ ⟨rfl, y4, rfl⟩
        exact ⟨o.trans (Only.snoc _ _ _), _, _, _, rfl⟩
    · rintro ρ g' ⟨o, _⟩
      unfold lz
      simp
      exact q g' o
  have rest : ∀ (m : D) (pm : P), f_message_of [.tup [.int T, .int d, .tup (ns.map .int), .tup (.str kd :: .str rm :: r)]] g = .ok m g → view g 1 m = some pm → sm pm = true → lz q4__law_read [some (HD os rs), some (.tup [.int t, .int d, .tup (ns.map .int), .tup (.str kd :: .str rm :: r)]), some (.int T), some (.tup [.int T, .int d, .tup (ns.map .int), .tup (.str kd :: .str rm :: r)]), some (.tup (.str kd :: .str rm :: r)), some m, none, none, none] g
    ⟨fun _ g => Q .non g, Q, fun _ _ => False, fun _ _ => False⟩ := by
    intro m pm e1 e2 e3
    unfold lz
    simp [name_of_ok, LINE, sn, e1, same_true 8 e2 e2 (by omega) e3]
    exact loop m
  by_cases c1 : kd = ['s', 'a', 'y']
  · subst c1
    simp [LINE]
    unfold lz; simp
    refine rest _ (.tup [.int T, .int d]) ?_ rfl rfl
    apply eq_ok
    unfold f_message_of b_message_of
    simp
    unfold lz; simp
    simp [name_of_ok]
  · rw [if_neg c1]
    unfold lz; simp
    have hw : ∀ g, inD (.str kd) (.tup [.str ['e', 'd', 'i', 't'], .str ['d', 'r', 'o', 'p']]) g = some (decide (kd ∈ [['e', 'd', 'i', 't'], ['d', 'r', 'o', 'p']])) := fun g => in_strs_t (ss := [['e', 'd', 'i', 't'], ['d', 'r', 'o', 'p']]) kd
    by_cases c2 : kd = ['e', 'd', 'i', 't'] ∨ kd = ['d', 'r', 'o', 'p']
    · have h7 := h6 c2
      rcases r with _ | ⟨x, r⟩
      · exact absurd rfl h7
      obtain ⟨p1, qs1, rfl, a1, a2⟩ := viewL_cons.mp h1
      have a1 : view g 1 x = some p1 := Stay.view (fun i o h => by simp at h) a1
      have z1 : sm p1 = true := by simp [sms] at h2; exact h2.1
      have em : f_message_of [.tup [.int T, .int d, .tup (ns.map .int), .tup (.str kd :: .str rm :: x :: r)]] g = .ok x g := by
        apply eq_ok
        unfold f_message_of b_message_of
        simp
        unfold lz; simp [c1]
        unfold lz; simp [hw, c2, LINE]
      have := rest x p1 em a1 z1
      by_cases c3 : kd = ['e', 'd', 'i', 't']
      · rw [if_pos c3]
        simpa using this
      · rw [if_neg c3]
        have c4 : kd = ['d', 'r', 'o', 'p'] := by rcases c2 with h | h; exact absurd h c3; exact h
        simp [c4]
        simpa [c4] using this
    · have c3 : ¬ kd = ['e', 'd', 'i', 't'] := fun h => c2 (.inl h)
      have c4 : ¬ kd = ['d', 'r', 'o', 'p'] := fun h => c2 (.inr h)
      simp [c3, c4]
      refine rest _ .non ?_ rfl rfl
      apply eq_ok
      unfold f_message_of b_message_of
      simp
      unfold lz; simp [c1]
      unfold lz; simp [hw, c3, c4, LINE]
      unfold lz; simp
end
end K02
end

section
set_option autoImplicit false
set_option linter.all false
namespace K02
open Py
theorem log2_lt {n k : Nat} (h : n < 2 ^ k) (hk : 0 < k) : n.log2 < k := by
  by_cases h0 : n = 0
  · subst h0; simp [Nat.log2]; omega
  · exact (Nat.log2_lt h0).mpr h
theorem mulOk_of {i j : Int} (hi : i.natAbs < 2 ^ 2000) (hj : j.natAbs < 2 ^ 2000) : mulOk i j = true := by
  unfold mulOk
  have := log2_lt hi (by omega)
  have := log2_lt hj (by omega)
  simp; omega
theorem lt_2000 {i : Int} (h0 : -100000000000000000000 ≤ i) (h1 : i ≤ 100000000000000000000) : i.natAbs < 2 ^ 2000 := by
  have : i.natAbs ≤ 100000000000000000000 := by omega
  exact Nat.lt_of_le_of_lt this (by decide +kernel)
theorem mulOk_small {i j : Int} (h0 : -100000000000000000000 ≤ i) (h1 : i ≤ 100000000000000000000) (h2 : -100000000000000000000 ≤ j) (h3 : j ≤ 100000000000000000000) : mulOk i j = true := mulOk_of (lt_2000 h0 h1) (lt_2000 h2 h3)
section
variable {n : Nat} {g : G} {v w : D} {p : P} {os : List (List Char)} {rs : List (List Char × List Char)}
theorem seed_ok {s : Nat} {ns : List Int} (h : lstOf (.ref s) g = some (ns.map .int)) {Q : D → G → Prop} (q : ∀ m : Int, 0 ≤ m → m < 2147483647 → Q (.int m) g) : wp (f__law_seed [.ref s] g) Q := by
  unfold f__law_seed b__law_seed
  simp
  unfold lz
  simp [len_ref h]
  refine ⟨by refine small_int ?_ ?_ <;> split <;> omega, ?_⟩
  generalize hN : (if 63 < (ns.length : Int) then (63 : Int) else (ns.length : Int)).toNat = N
  have hN1 : N ≤ 63 ∧ N ≤ ns.length := by rw [← hN]; split <;> omega
  refine for_itL (fun i ρ g' => g = g' ∧ ∃ m y, ρ = [some (.ref s), some (.int m), y] ∧ 0 ≤ m ∧ m < 2147483647) ⟨rfl, 17, none, rfl, by omega, by omega⟩ ?_ ?_
  · rintro i d ρ _ hd ⟨rfl, m, y, rfl, m0, m1⟩
    obtain ⟨hi, rfl⟩ := rng_at hd
    refine ⟨_, rfl, ?_⟩
    have hy : ns[i]? = some (ns[i]'(by omega)) := List.getElem?_eq_getElem (by omega)
    generalize ns[i]'(by omega) = z at hy
    have e : oIdx (.ref s) (.int i) g = some (.int z) := by rw [idx_ref _ h, atI_nat, List.getElem?_map, hy]; rfl
    simp [e]
    refine ⟨mulOk_small (by omega) (by omega) (by omega) (by omega), ?_⟩
    exact ⟨Int.emod_nonneg _ (by omega), Int.emod_lt_of_pos _ (by omega)⟩
  · rintro ρ _ ⟨rfl, m, y, rfl, m0, m1⟩
    unfold lz
    simp
    exact q m m0 m1
/-- a source stands at r -/
def Src (g : G) (r : Nat) : Prop := ∃ c m : Int, g[r]? = some (.lst [.int c, .int m]) ∧ 0 ≤ c ∧ 0 ≤ m ∧ m < 2147483647
theorem source_ok {s : Nat} {ns : List Int} {place : Int} (h : lstOf (.ref s) g = some (ns.map .int)) (p0 : 0 ≤ place) (p1 : place ≤ 1000) {Q : D → G → Prop} (q : ∀ c m : Int, 0 ≤ c → 0 ≤ m → m < 2147483647 → Q (.ref g.length) (g ++ [.lst [.int c, .int m]])) : wp (f__law_source [.ref s, .int place] g) Q := by
  unfold f__law_source b__law_source
  have next : ∀ (c : Int), 0 ≤ c → lz q3__law_source [some (.ref s), some (.int place), some (.int c), none, none] g ⟨fun _ g => Q .non g, Q, fun _ _ => False, fun _ _ => False⟩ := by
    intro c hc
    unfold lz; simp
    refine seed_ok h fun m m0 m1 => ?_
    unfold lz; simp
    have hlog : Nat.log2 7 < 9000 := by decide
    refine ⟨mulOk_small (by omega) (by omega) (by omega) (by omega), hlog, mulOk_small (by omega) (by omega) (by omega) (by omega), mulOk_small (by omega) (by omega) (by omega) (by omega), ?_⟩
    unfold lz; simp [LINE]
    exact q c _ hc (Int.emod_nonneg _ (by omega)) (Int.emod_lt_of_pos _ (by omega))
  simp
  unfold lz; simp [len_ref h]
  by_cases hp : place < ns.length
  · have hy : ns[place.toNat]? = some (ns[place.toNat]'(by omega)) := List.getElem?_eq_getElem (by omega)
    generalize ns[place.toNat]'(by omega) = z at hy
    have e : oIdx (.ref s) (.int place) g = some (.int z) := by rw [idx_ref _ h, atI_int _ p0, List.getElem?_map, hy]; rfl
    simp [hp, e]
    refine ⟨by decide +kernel, by decide +kernel, ?_⟩
    exact next _ (Int.emod_nonneg _ (by decide +kernel))
  · simp [hp]
    exact next 0 (by omega)
theorem get_set (g : G) (r : Nat) (o : O) (h : r < g.length) : (g.set r o)[r]? = some o := by rw [List.getElem?_set_self h]
theorem take_ok {r : Nat} {many : Int} (h : Src g r) (h0' : 0 < many) (h1 : many ≤ 100000000000000000000) {Q : D → G → Prop} (q : ∀ (d : Int) (g' : G), 0 ≤ d → d < many → Only [r] g g' → Src g' r → Q (.int d) g') : wp (f__law_take [.ref r, .int many] g) Q := by
  obtain ⟨c, m, e, c0, m0, m1⟩ := h
  unfold f__law_take b__law_take
  have hl := lstOf_lst e
  have hr : r < g.length := lstOf_len hl
  simp [idx_ref _ hl]
  by_cases h0 : c = 0
  · rw [if_pos h0]
    refine ⟨mulOk_small (by omega) (by omega) (by omega) (by omega), ?_⟩
    simp [mutOf_lst e, ix]
    have e2 := get_set g r (.lst [.int c, .int ((m * 69621 + 12345) % 2147483647)]) hr
    have b0 : 0 ≤ (m * 69621 + 12345) % 2147483647 := Int.emod_nonneg _ (by omega)
    have b1 : (m * 69621 + 12345) % 2147483647 < 2147483647 := Int.emod_lt_of_pos _ (by omega)
    generalize (m * 69621 + 12345) % 2147483647 = m' at e2 b0 b1 ⊢
    unfold lz
    simp [idx_ref _ (lstOf_lst e2)]
    refine ⟨by decide, h0', q _ _ (Int.emod_nonneg _ (by omega)) (Int.emod_lt_of_pos _ h0') (Only.set (.inl (by simp)) _) ⟨c, m', e2, c0, b0, b1⟩⟩
  · rw [if_neg h0]
    unfold lz; simp [idx_ref _ hl]
    refine ⟨h0', ?_⟩
    unfold lz; simp [idx_ref _ hl]
    refine ⟨⟨h0', log2_lt (Nat.lt_of_le_of_lt (show many.natAbs ≤ 100000000000000000000 by omega) (by decide +kernel)) (by omega)⟩, ?_⟩
    simp [mutOf_lst e, ix]
    unfold lz; simp
    exact q _ _ (Int.emod_nonneg _ (by omega)) (Int.emod_lt_of_pos _ h0') (Only.set (.inl (by simp)) _) ⟨c / many, m, get_set g r _ hr, Int.ediv_nonneg c0 (by omega), m0, m1⟩
theorem idx_str_mem {cs : List Char} {i : Int} (hl : cs.length ≤ LINE) (h0 : 0 ≤ i) (h1 : i < cs.length) : ∃ c, oIdx (.str cs) (.int i) g = some (.str [c]) := by
  obtain ⟨c, e, _⟩ := atI_mem h0 h1
  exact ⟨c, by simp [hl, e]⟩
theorem idx_ref_mem {γ : Type} {f : γ → D} {r : Nat} {xs : List γ} {i : Int} (h : lstOf (.ref r) g = some (xs.map f)) (h0 : 0 ≤ i) (h1 : i < xs.length) : ∃ c ∈ xs, oIdx (.ref r) (.int i) g = some (f c) := by
  obtain ⟨c, e, hm⟩ := atI_mem (xs := xs.map f) h0 (by simpa using h1)
  obtain ⟨x, hx, rfl⟩ := List.mem_map.mp hm
  exact ⟨x, hx, by rw [idx_ref _ h, e]⟩
theorem idx_tup_mem {γ : Type} {f : γ → D} {xs : List γ} {i : Int} (h0 : 0 ≤ i) (h1 : i < xs.length) : ∃ c ∈ xs, oIdx (.tup (xs.map f)) (.int i) g = some (f c) := by
  obtain ⟨c, e, hm⟩ := atI_mem (xs := xs.map f) h0 (by simpa using h1)
  obtain ⟨x, hx, rfl⟩ := List.mem_map.mp hm
  exact ⟨x, hx, by rw [idx_tup, e]⟩
theorem lit0_len : lit_0.length = 26 := rfl
theorem cut_hd {γ : Type} (xs : List γ) {i : Int} (h0 : 0 ≤ i) : cut xs none (some i) = xs.take i.toNat := by
  have : ¬ i < 0 := by omega
  simp [cut, sIx, this]
theorem cut_tl {γ : Type} (xs : List γ) {i : Int} (h0 : 0 ≤ i) : cut xs (some i) none = xs.drop i.toNat := by
  have : ¬ i < 0 := by omega
  simp [cut, sIx, this]
  by_cases h : i.toNat ≤ xs.length
  · rw [Nat.min_eq_left h, List.take_of_length_le (by simp)]
  · rw [Nat.min_eq_right (by omega), List.drop_eq_nil_of_le (by omega), List.drop_eq_nil_of_le (by omega)]; simp
def Words (ws : List (List Char)) : Prop := ∀ w ∈ ws, 1 ≤ w.length ∧ w.length ≤ 8
theorem word_ok {r o : Nat} {ws : List (List Char)} (h : Src g r) (ho : lstOf (.ref o) g = some (ws.map .str)) (hw : Words ws) (hl : ws.length ≤ 1000) (hro : o ≠ r) {Q : D → G → Prop}
    (q : ∀ (w : List Char) (g' : G), 1 ≤ w.length → w.length ≤ 8 → Only [r] g g' → Src g' r → Q (.str w) g') : wp (f__law_word [.ref r, .ref o] g) Q := by
  unfold f__law_word b__law_word
  simp
  have rest : ∀ g', Only [r] g g' → Src g' r → lz q5__law_word [some (.ref r), some (.ref o), some (.str lit_0), none, none, none, none] g' ⟨fun _ g => Q .non g, Q, fun _ _ => False, fun _ _ => False⟩ := by
    intro g1 o1 s1
    unfold lz; simp
    unfold lz; simp
    refine take_ok s1 (by omega) (by omega) fun d g2 d0 d1 o2 s2 => ?_
    simp
    refine ⟨small_int (by omega) (by omega), ?_⟩
    refine for_itL (fun i ρ g' => Only [r] g g' ∧ Src g' r ∧ ∃ w y, ρ = [some (.ref r), some (.ref o), some (.str lit_0), none, none, some (.str w), y] ∧ w.length = i) ⟨o1.trans o2, s2, [], none, rfl, rfl⟩ ?_ ?_
    · rintro i d ρ g3 hd ⟨o3, s3, w, y, rfl, hwl⟩
      obtain ⟨hi, rfl⟩ := rng_at hd
      refine ⟨_, rfl, ?_⟩
      simp
      refine take_ok s3 (by omega) (by omega) fun d g4 d0 d1 o4 s4 => ?_
      obtain ⟨c, hc⟩ := idx_str_mem (g := g4) (cs := lit_0) (by decide +kernel) d0 (by rw [lit0_len]; exact d1)
      rw [hc]
      simp
      exact ⟨by unfold LINE; omega, o3.trans o4, s4, hwl⟩
    · rintro ρ g3 ⟨o3, s3, w, y, rfl, hwl⟩
      simp at hwl
      unfold lz; simp
      exact q _ _ (by omega) (by omega) o3 s3
  unfold lz
  simp [len_ref ho]
  by_cases h1 : ws = []
  · subst h1
    simp
    exact rest g (Only.refl _ _) h
  · have hp : 0 < ws.length := List.length_pos_iff.mpr h1
    simp [hp]
    refine take_ok h (by omega) (by omega) fun d g1 d0 d1 o1 s1 => ?_
    simp
    by_cases hd : d = 0
    · rw [if_pos hd]
      have ho1 := o1.lst ho (by simpa using hro)
      simp [len_ref ho1]
      refine take_ok s1 (by omega) (by omega) fun d g2 d0 d1 o2 s2 => ?_
      have ho2 := o2.lst ho1 (by simpa using hro)
      obtain ⟨b, hb, e⟩ := idx_ref_mem ho2 d0 d1
      have hb' := hw b hb
      rw [e]
      simp
      unfold lz
      have : b.length ≤ LINE := by unfold LINE; omega
      simp [this]
      refine take_ok s2 (by omega) (by omega) fun d g3 d0 d1 o3 s3 => ?_
      unfold lz
      simp [this]
      refine take_ok s3 (by omega) (by omega) fun d4 g4 d40 d41 o4 s4 => ?_
      obtain ⟨c, hc⟩ := idx_str_mem (g := g4) (cs := lit_0) (by decide +kernel) d40 (by rw [lit0_len]; exact d41)
      rw [hc]
      simp [this]
      rw [cut_hd _ d0, cut_tl _ (by omega)]
      have l1 : (b.take d.toNat).length = d.toNat := by rw [List.length_take]; omega
      have l2 : (b.drop (d + 1).toNat).length = b.length - (d + 1).toNat := by rw [List.length_drop]
      refine ⟨by unfold LINE; omega, by unfold LINE; omega, q _ _ ?_ ?_ (((o1.trans o2).trans o3).trans o4) s4⟩
      · simp only [List.length_append, List.length_cons]; omega
      · simp only [List.length_append, List.length_cons, l1, l2]; omega
    · rw [if_neg hd]
      exact rest g1 o1 s1
theorem Src.set {r a : Nat} {o : O} (h : Src g r) (hr : a ≠ r) : Src (g.set a o) r := by
  obtain ⟨c, m, e, z⟩ := h
  exact ⟨c, m, by rw [List.getElem?_set_ne hr]; exact e, z⟩
theorem Src.snoc {r : Nat} (h : Src g r) (o : O) : Src (g ++ [o]) r := by
  obtain ⟨c, m, e, z⟩ := h
  exact ⟨c, m, (Stay.snoc g o) r _ e, z⟩
theorem Src.lt {r : Nat} (h : Src g r) : r < g.length := by
  obtain ⟨c, m, e, z⟩ := h
  exact (List.getElem?_eq_some_iff.mp e).1
theorem at_lt {a : Nat} {o : O} (h : g[a]? = some o) : a < g.length := (List.getElem?_eq_some_iff.mp h).1
theorem at_set {a : Nat} {o o' : O} (h : g[a]? = some o) : (g.set a o')[a]? = some o' := get_set g a o' (at_lt h)
theorem at_ne {a b : Nat} {o o' : O} (h : g[a]? = some o) (hb : b ≠ a) : (g.set b o')[a]? = some o := by rw [List.getElem?_set_ne hb]; exact h
theorem at_snoc {a : Nat} {o o' : O} (h : g[a]? = some o) : (g ++ [o'])[a]? = some o := Stay.snoc g o' a o h
theorem lstOf_at {a : Nat} {xs : List D} (h : g[a]? = some (.lst xs)) : (lstOf (.ref a) g).isSome = true := by rw [lstOf_lst h]; rfl
def HI (g : G) (r b c : Nat) (ws os : List (List Char)) (i : Nat) (ρ : Env) (g' : G) : Prop :=
  Only [r] g g' ∧ Src g' r ∧ g'[g.length]? = some (.lst (ws.map .str)) ∧ g'[b]? = some (.lst (os.map .str)) ∧ ∃ (rs : List (List Char × List Char)) (y2 y6 y7 : Option D),
      ρ = [some (.ref r), some (.ref g.length), y2, some (.ref b), some (.ref c), some (.ref (c + 1)), y6, y7] ∧ g'[c]? = some (.lst (rs.map fun x => .tup [.str x.1, .str x.2])) ∧
      g'[c + 1]? = some (.lst ((rs.map (·.1)).map .str)) ∧ rs.length ≤ i ∧ (1 ≤ i → 1 ≤ rs.length) ∧ Words (rs.map (·.1))
theorem house_ok {r : Nat} (h : Src g r) {Q : D → G → Prop}
    (q : ∀ (os : List (List Char)) (rs : List (List Char × List Char)) (g' : G), 1 ≤ os.length → os.length ≤ 8 → 1 ≤ rs.length → rs.length ≤ 6 → (∀ x ∈ rs, x.1.length ≤ 8) → Only [r] g g' → Src g' r → Q (HD os rs) g') : wp (f__law_house [.ref r] g) Q := by
  unfold f__law_house b__law_house
  have hr := h.lt
  simp
  unfold lz; simp
  refine take_ok (h.snoc _) (by omega) (by omega) fun d g1 d0 d1 o1 s1 => ?_
  simp
  refine ⟨small_int (by omega) (by omega), ?_⟩
  refine for_itL (fun i ρ g' => Only [r] g g' ∧ Src g' r ∧ ∃ ws y, ρ = [some (.ref r), some (.ref g.length), y, none, none, none, none, none] ∧ g'[g.length]? = some (.lst (ws.map .str)) ∧ ws.length = i ∧ Words ws)
    ⟨(Only.snoc _ _ _).trans o1, s1, [], none, rfl, o1.get (get_snoc _ _) (by simp; omega), rfl, by simp [Words]⟩ ?_ ?_
  · rintro i dd ρ g2 hd ⟨o2, s2, ws, y, rfl, a2, hl, hw⟩
    obtain ⟨hi, rfl⟩ := rng_at hd
    refine ⟨_, rfl, ?_⟩
    simp [lstOf_lst a2]
    refine word_ok s2 (lstOf_lst a2) hw (by omega) (by omega) fun w g3 w0 w1 o3 s3 => ?_
    have a3 := o3.get a2 (by simp; omega)
    rw [append_lst a3]
    simp
    refine ⟨by unfold LINE; omega, (o2.trans o3).then (Only.set (ws := [g.length]) (.inl (by simp)) _) (by simp), s3.set (by omega), ws ++ [w], by simpa using at_set a3, by simp [hl], ?_⟩
    intro x hx
    rcases List.mem_append.mp hx with hx | hx
    · exact hw x hx
    · cases List.mem_singleton.mp hx; exact ⟨w0, w1⟩
  rintro ρ g2 ⟨o2, s2, ws, y, rfl, a2, hl, hw⟩
  simp at hl
  have hg2 : g.length < g2.length := at_lt a2
  unfold lz; simp
  unfold lz; simp
  refine take_ok (s2.snoc _) (by omega) (by omega) fun d' g3 d0' d1' o3 s3 => ?_
  simp
  refine ⟨small_int (by omega) (by omega), ?_⟩
  have a3 := o3.get (at_snoc (o' := .lst []) a2) (by simp; omega)
  refine for_itL (fun i ρ g' => Only [r] g g' ∧ Src g' r ∧ g'[g.length]? = some (.lst (ws.map .str)) ∧ ∃ os y, ρ = [some (.ref r), some (.ref g.length), y, some (.ref g2.length), none, none, none, none] ∧ g'[g2.length]? = some (.lst (os.map .str)) ∧ os.length = i)
    ⟨o2.trans ((Only.snoc _ _ _).trans o3), s3, a3, [], y, rfl, o3.get (get_snoc _ _) (by simp; omega), rfl⟩ ?_ ?_
  · rintro i dd ρ g4 hd ⟨o4, s4, a4, os, y, rfl, b4, hlo⟩
    obtain ⟨hi, rfl⟩ := rng_at hd
    refine ⟨_, rfl, ?_⟩
    simp [lstOf_lst a4, lstOf_lst b4, len_ref (lstOf_lst a4)]
    refine take_ok s4 (by omega) (by omega) fun e g5 e0 e1 o5 s5 => ?_
    have a5 := o5.get a4 (by simp; omega)
    have b5 := o5.get b4 (by simp; omega)
    obtain ⟨c, hc, ec⟩ := idx_ref_mem (lstOf_lst a5) e0 e1
    rw [ec]
    simp
    rw [append_lst b5]
    simp
    refine ⟨by unfold LINE; omega, (o4.trans o5).then (Only.set (ws := [g2.length]) (.inl (by simp)) _) (by simp; omega), s5.set (by omega), at_ne a5 (by omega), os ++ [c], by simpa using at_set b5, by simp [hlo]⟩
  rintro ρ g4 ⟨o4, s4, a4, os, y, rfl, b4, hlo⟩
  simp at hlo
  have hg4 : g2.length < g4.length := at_lt b4
  unfold lz; simp
  unfold lz; simp
  unfold lz; simp
  have k4 : Only [r] g4 (g4 ++ [.lst [], .lst []]) := by
    have := (Only.snoc [r] g4 (.lst [])).trans (Only.snoc [r] (g4 ++ [.lst []]) (.lst []))
    simpa using this
  have t4 : Src (g4 ++ [.lst [], .lst []]) r := by
    have := (s4.snoc (.lst [])).snoc (.lst [])
    simpa using this
  refine take_ok t4 (by omega) (by omega) fun d'' g5 d0'' d1'' o5 s5 => ?_
  simp
  refine ⟨small_int (by omega) (by omega), ?_⟩
  have a5 := o5.get (k4.get a4 (by simp; omega)) (by simp; omega)
  have b5 := o5.get (k4.get b4 (by simp; omega)) (by simp; omega)
  have c5 : g5[g4.length]? = some (.lst []) := o5.get (by simp) (by simp; omega)
  have t5 : g5[g4.length + 1]? = some (.lst []) := o5.get (by simp) (by simp; omega)
  refine for_itL (HI g r g2.length g4.length ws os)
    ⟨(o4.trans k4).trans o5, s5, a5, b5, [], y, none, none, rfl, c5, t5, by simp, by omega, by simp [Words]⟩ ?_ ?_
  · rintro i dd ρ g6 hd ⟨o6, s6, a6, b6, rs, y2, y6, y7, rfl, c6, t6, hrl, hr1, hrw⟩
    obtain ⟨hi, rfl⟩ := rng_at hd
    refine ⟨_, rfl, ?_⟩
    have hg6 := at_lt t6
    have hlen : ((ws.map D.str) ++ ((rs.map (·.1)).map D.str)).length = ws.length + rs.length := by simp
    simp
    rw [add_lst a6 t6]
    refine ⟨by simp; unfold LINE; omega, ?_⟩
    refine word_ok (ws := ws ++ rs.map (·.1)) (s6.snoc _) (by rw [List.map_append]; exact lstOf_lst (get_snoc _ _)) (fun w hw' => ?_) (by simp; omega) (by have := s6.lt; omega) fun w g7 w0 w1 o7 s7 => ?_
    · rcases List.mem_append.mp hw' with z | z
      · exact hw w z
      · exact hrw w z
    have o7 := (Only.snoc [r] g6 _).trans o7
    have a7 := o7.get a6 (by simp; omega)
    have b7 := o7.get b6 (by simp; omega)
    have c7 := o7.get c6 (by simp; omega)
    have t7 := o7.get t6 (by simp; omega)
    have o7 := o6.trans o7
    have last : ∀ (bk ct : Env → G → Prop) (kp : List Char) (g8 : G), Only [r] g g8 → Src g8 r → g8[g.length]? = some (.lst (ws.map .str)) → g8[g2.length]? = some (.lst (os.map .str)) → g8[g4.length]? = some (.lst (rs.map fun x => .tup [.str x.1, .str x.2])) → g8[g4.length + 1]? = some (.lst ((rs.map (·.1)).map .str)) →
        lz q2__law_house [some (.ref r), some (.ref g.length), some (.int i), some (.ref g2.length), some (.ref g4.length), some (.ref (g4.length + 1)), some (.str w), some (.str kp)] g8 ⟨HI g r g2.length g4.length ws os (i + 1), Q, bk, ct⟩ := by
      intro bk ct kp g8 o8 s8 a8 b8 c8 t8
      unfold lz; simp
      have hin : inD (.str w) (.ref (g4.length + 1)) g8 = some (decide (w ∈ rs.map (·.1))) := in_strs w (lstOf_lst t8)
      rw [hin]
      by_cases hm : w ∈ rs.map (·.1)
      · rw [decide_eq_true hm]
        simp
        refine ⟨o8, s8, a8, b8, rs, _, _, _, rfl, c8, t8, by omega, fun _ => ?_, hrw⟩
        obtain ⟨x, hx, e⟩ := List.mem_map.mp hm
        exact List.length_pos_of_mem hx
      · rw [decide_eq_false hm]
        simp [-List.map_map, lstOf_lst t8]
        rw [append_lst t8]
        refine ⟨by simp; unfold LINE; omega, ?_⟩
        unfold lz
        have c9 : (g8.set (g4.length + 1) (.lst ((rs.map (·.1)).map .str ++ [.str w])))[g4.length]? = some (.lst (rs.map fun x => .tup [.str x.1, .str x.2])) := at_ne c8 (by omega)
        simp [-List.map_map, lstOf_lst c9, LINE]
        rw [append_lst c9]
        refine ⟨by simp; unfold LINE; omega, ?_⟩
        have oo := (Only.set (g := g8) (ws := [g4.length + 1]) (r := g4.length + 1) (.inl (by simp)) (.lst ((rs.map (·.1)).map .str ++ [.str w])))
        have oo2 := o8.then oo (by simp; omega)
        refine ⟨oo2.then (Only.set (ws := [g4.length]) (.inl (by simp)) _) (by simp; omega), (s8.set (by have := s8.lt; omega)).set (by omega), ?_⟩
        refine ⟨at_ne (at_ne a8 (by omega)) (by omega), at_ne (at_ne b8 (by omega)) (by omega), rs ++ [(w, kp)], _, _, _, rfl, ?_, ?_, by simp; omega, by simp, ?_⟩
        · have := at_set (o' := .lst (rs.map (fun x => .tup [.str x.1, .str x.2]) ++ [.tup [.str w, .str kp]])) c9
          simpa using this
        · refine at_ne ?_ (by omega)
          have := at_set (o' := .lst ((rs.map (·.1)).map .str ++ [.str w])) t8
          simpa using this
        · intro x hx
          simp only [List.map_append, List.map_cons, List.map_nil] at hx
          rcases List.mem_append.mp hx with hx | hx
          · exact hrw x hx
          · cases List.mem_singleton.mp hx; exact ⟨w0, w1⟩
    unfold lz; simp
    unfold lz; simp
    refine take_ok s7 (by omega) (by omega) fun e g8 e0 e1 o8 s8 => ?_
    have a8 := o8.get a7 (by simp; omega)
    have b8 := o8.get b7 (by simp; omega)
    have c8 := o8.get c7 (by simp; omega)
    have t8 := o8.get t7 (by simp; omega)
    simp
    by_cases he : 0 < e
    · rw [if_pos he]
      simp [len_ref (lstOf_lst b8)]
      refine take_ok s8 (by omega) (by omega) fun e' g9 e0' e1' o9 s9 => ?_
      have a9 := o9.get a8 (by simp; omega)
      have b9 := o9.get b8 (by simp; omega)
      have c9 := o9.get c8 (by simp; omega)
      have t9 := o9.get t8 (by simp; omega)
      obtain ⟨kp, _, ek⟩ := idx_ref_mem (lstOf_lst b9) e0' e1'
      rw [ek]
      simp
      exact last _ _ kp g9 ((o7.trans o8).trans o9) s9 a9 b9 c9 t9
    · rw [if_neg he]
      exact last _ _ [] g8 (o7.trans o8) s8 a8 b8 c8 t8
  · rintro ρ g6 ⟨o6, s6, a6, b6, rs, y2, y6, y7, rfl, c6, t6, hrl, hr1, hrw⟩
    unfold lz; simp
    rw [tuple_ref (lstOf_lst b6)]
    simp
    rw [tuple_ref (lstOf_lst c6)]
    simp at hrl hr1
    simp
    refine ⟨by unfold LINE; omega, q os rs g6 (by omega) (by omega) (by omega) (by omega) (fun x hx => ?_) o6 s6⟩
    exact (hrw x.1 (List.mem_map.mpr ⟨x, hx, rfl⟩)).2
end
end K02
end

section
set_option autoImplicit false
set_option linter.all false
namespace K02
open Py
section
variable {n : Nat} {g : G} {v w : D} {p : P} {os : List (List Char)} {rs : List (List Char × List Char)}
def TI (g : G) (r z : Nat) (i : Nat) (ρ : Env) (g' : G) : Prop := Only [r] g g' ∧ Src g' r ∧ ∃ (s : List Char) (y : Option D), ρ = [some (.ref r), some (.str (lit_1 ++ lit_2)), some (.ref z), some (.str s), y] ∧ s.length = i
theorem signs_len : (lit_1 ++ lit_2).length = 94 := rfl
theorem text_ok {r : Nat} (h : Src g r) {Q : D → G → Prop} (q : ∀ (s : List Char) (g' : G), s.length ≤ 60 → Only [r] g g' → Src g' r → Q (.str s) g') : wp (f__law_text [.ref r] g) Q := by
  unfold f__law_text b__law_text
  simp
  refine wp_of signs_eq ?_
  unfold lz; simp
  refine take_ok h (by omega) (by omega) fun d g1 d0 d1 o1 s1 => ?_
  simp [LINE]
  unfold lz; simp
  unfold lz; simp
  refine take_ok (s1.snoc _) (by omega) (by omega) fun d' g2 d0' d1' o2 s2 => ?_
  have e : lstOf (.ref g1.length) g2 = some (([0, 1, 59, 60, d] : List Int).map .int) := o2.lst (lstOf_lst (get_snoc _ _)) (by have := s1.lt; simp; omega)
  obtain ⟨z, hz, ez⟩ := idx_ref_mem e d0' (by simpa using d1')
  rw [ez]
  have hz2 : 0 ≤ z ∧ z ≤ 60 := by
    simp at hz
    rcases hz with rfl | rfl | rfl | rfl | rfl <;> omega
  simp
  refine ⟨small_int (by omega) (by omega), ?_⟩
  refine for_itL (TI g r g1.length) ⟨o1.trans ((Only.snoc _ _ _).trans o2), s2, [], none, rfl, rfl⟩ ?_ ?_
  · rintro i d ρ g3 hd ⟨o3, s3, w, y, rfl, hwl⟩
    obtain ⟨hi, rfl⟩ := rng_at hd
    refine ⟨_, rfl, ?_⟩
    simp
    refine take_ok s3 (by omega) (by omega) fun d g4 d0 d1 o4 s4 => ?_
    obtain ⟨c, hc⟩ := idx_str_mem (g := g4) (cs := lit_1 ++ lit_2) (by decide +kernel) d0 (by rw [signs_len]; exact d1)
    rw [hc]
    simp
    exact ⟨by unfold LINE; omega, o3.trans o4, s4, _, _, rfl, by simp [hwl]⟩
  · rintro ρ g3 ⟨o3, s3, w, y, rfl, hwl⟩
    simp at hwl
    unfold lz; simp
    exact q _ _ (by omega) o3 s3
theorem put_ok {ds : List D} {i : Int} {v : D} (h0 : 0 ≤ i) (hl : ds.length ≤ 1000) {Q : D → G → Prop} (q : Q (.tup (ds.take i.toNat ++ [v] ++ ds.drop (i.toNat + 1))) g) : wp (f__law_put [.tup ds, .int i, v] g) Q := by
  unfold f__law_put b__law_put
  simp [LINE]
  rw [cut_hd _ h0, cut_tl _ (by omega)]
  have : (i + 1).toNat = i.toNat + 1 := by omega
  rw [this]
  have l1 : (ds.take i.toNat).length ≤ ds.length := by rw [List.length_take]; omega
  have l2 : (ds.drop (i.toNat + 1)).length ≤ ds.length := by rw [List.length_drop]; omega
  refine ⟨by omega, by omega, ?_⟩
  simpa using q
theorem name_ok {r : Nat} {count : Int} (h : Src g r) (c0 : 0 < count) (c1 : count ≤ 1000) {Q : D → G → Prop} (q : ∀ (t d : Int) (g' : G), Only [r] g g' → Src g' r → Q (.tup [.int t, .int d]) g') : wp (f__law_name [.ref r, .int count] g) Q := by
  unfold f__law_name b__law_name
  simp [LINE]
  refine ⟨by decide +kernel, ?_⟩
  refine take_ok (h.snoc _) (by omega) (by omega) fun d g1 d0 d1 o1 s1 => ?_
  have e : lstOf (.ref g.length) g1 = some (([4, 30, 100000000000000000000] : List Int).map .int) := o1.lst (lstOf_lst (get_snoc _ _)) (by have := h.lt; simp; omega)
  obtain ⟨z, hz, ez⟩ := idx_ref_mem e d0 (by simpa using d1)
  rw [ez]
  have hz2 : 0 < z ∧ z ≤ 100000000000000000000 := by
    simp at hz
    rcases hz with rfl | rfl | rfl <;> omega
  simp
  refine take_ok s1 hz2.1 hz2.2 fun d' g2 d0' d1' o2 s2 => ?_
  simp
  refine take_ok s2 c0 (by omega) fun d2 g3 d02 d12 o3 s3 => ?_
  exact q _ _ _ ((Only.snoc _ _ _).trans (o1.trans (o2.trans o3))) s3
theorem view_name {t d : Int} {n : Nat} : view g (n + 1) (.tup [.int t, .int d]) = some (.tup [.int t, .int d]) := by simp [view, viewL]
/-- what a deed may be about -/
structure About (v : D) (p : P) : Prop where
  is : (v = .non ∧ p = .non) ∨ ∃ t d, v = .tup [.int t, .int d] ∧ p = .tup [.int t, .int d]
theorem About.view {v : D} {p : P} (h : About v p) : Py.view [] 1 v = some p := by
  rcases h.is with ⟨rfl, rfl⟩ | ⟨t, d, rfl, rfl⟩ <;> simp [Py.view, viewL]
theorem About.sm {v : D} {p : P} (h : About v p) : K02.smz 61 p = true := by
  rcases h.is with ⟨rfl, rfl⟩ | ⟨t, d, rfl, rfl⟩ <;> simp [K02.smz, smzs]
theorem deed_ok {r : Nat} (h : Src g r) (ho0 : 1 ≤ os.length) (ho1 : os.length ≤ 8) (hr0 : 1 ≤ rs.length) (hr1 : rs.length ≤ 6) (hrw : ∀ x ∈ rs, x.1.length ≤ 8) {Q : D → G → Prop}
    (q : ∀ (e : D) (g' : G), Deed e → Only [r] g g' → Src g' r → Q e g') : wp (f__law_deed [.ref r, HD os rs] g) Q := by
  unfold f__law_deed b__law_deed
  simp [hd_0]
  unfold lz; simp [hd_1]
  refine take_ok h (by omega) (by omega) fun d g1 d0 d1 o1 s1 => ?_
  obtain ⟨rm, hrm, er⟩ := idx_tup_mem (g := g1) (f := fun x : List Char × List Char => D.tup [.str x.1, .str x.2]) d0 (by simpa using d1)
  rw [er]
  simp
  unfold lz; simp
  unfold lz; simp
  have hw := hrw rm hrm
  have rest : ∀ (v : D) (p : P) (g2 : G), About v p → Only [r] g g2 → Src g2 r → lz q5__law_deed [some (.ref r), some (HD os rs), some (.int os.length), some (.str rm.1), some v, none] g2 ⟨fun _ g => Q .non g, Q, fun _ _ => False, fun _ _ => False⟩ := by
    intro v p g2 hv o2 s2
    unfold lz; simp
    refine take_ok s2 (by omega) (by omega) fun k g3 k0 k1 o3 s3 => ?_
    have o3 := o2.trans o3
    unfold lz; simp
    by_cases c1 : k < 2
    · rw [if_pos c1]
      simp [LINE]
      refine text_ok s3 fun s g4 hs o4 s4 => ?_
      exact q _ _ ⟨['s', 'a', 'y'], rm.1, [v, .str s], [p, .str s], rfl, viewL_cons.mpr ⟨p, [.str s], rfl, hv.view, by simp [viewL, view]⟩, by have := hv.sm; simp [smzs, smz, this]; omega, by simp, by simp, by omega, by simp⟩ (o3.trans o4) s4
    · rw [if_neg c1]
      unfold lz; simp
      by_cases c2 : k < 4
      · rw [if_pos c2]
        simp [LINE]
        refine name_ok s3 (by omega) (by omega) fun t dd g4 o4 s4 => ?_
        refine text_ok s4 fun s g5 hs o5 s5 => ?_
        exact q _ _ ⟨['e', 'd', 'i', 't'], rm.1, [.tup [.int t, .int dd], v, .str s], [.tup [.int t, .int dd], p, .str s], rfl, viewL_cons.mpr ⟨_, _, rfl, view_name, viewL_cons.mpr ⟨p, [.str s], rfl, hv.view, by simp [viewL, view]⟩⟩, by have := hv.sm; simp [smzs, smz, this]; omega, by simp, by simp, by omega, by simp⟩ (o3.trans (o4.trans o5)) s5
      · rw [if_neg c2]
        unfold lz; simp
        by_cases c3 : k = 4
        · rw [if_pos c3]
          simp [LINE]
          refine name_ok s3 (by omega) (by omega) fun t dd g4 o4 s4 => ?_
          exact q _ _ ⟨['d', 'r', 'o', 'p'], rm.1, [.tup [.int t, .int dd]], [.tup [.int t, .int dd]], rfl, viewL_cons.mpr ⟨_, _, rfl, view_name, rfl⟩, by simp [smzs, smz], by simp, by simp, by omega, by simp⟩ (o3.trans o4) s4
        · rw [if_neg c3]
          unfold lz; simp [LINE]
          obtain ⟨kd, hk, ek⟩ := idx_ref_mem (g := g3 ++ [.lst [.str ['r', 'e', 'a', 'd'], .str ['c', 'o', 'm', 'e'], .str ['g', 'o']]]) (r := g3.length) (xs := [['r', 'e', 'a', 'd'], ['c', 'o', 'm', 'e'], ['g', 'o']]) (f := D.str) (i := k - 5) (lstOf_lst (get_snoc _ _)) (by omega) (by simp; omega)
          rw [ek]
          simp
          refine q _ _ ⟨kd, rm.1, [], [], rfl, rfl, rfl, by simp, ?_, by omega, ?_⟩ (o3.trans (Only.snoc _ _ _)) (s3.snoc _)
          · simp at hk; rcases hk with rfl | rfl | rfl <;> simp
          · simp at hk; rcases hk with rfl | rfl | rfl <;> simp
  refine take_ok s1 (by omega) (by omega) fun d g2 d0 d1 o2 s2 => ?_
  simp
  by_cases hd : d = 1
  · rw [if_pos hd]
    refine name_ok s2 (by omega) (by omega) fun t dd g3 o3 s3 => ?_
    exact rest _ _ g3 ⟨.inr ⟨t, dd, rfl, rfl⟩⟩ (o1.trans (o2.trans o3)) s3
  · rw [if_neg hd]
    exact rest _ _ g2 ⟨.inl ⟨rfl, rfl⟩⟩ (o1.trans o2) s2
def EI (g : G) (r z : Nat) (h : D) (c : Int) (i : Nat) (ρ : Env) (g' : G) : Prop := Only [r] g g' ∧ Src g' r ∧ ∃ (ns : List Int) (y : Option D), ρ = [some (.ref r), some h, some (.int c), some (.ref z), y, none] ∧ ns.length = i ∧ g'[z]? = some (.lst (ns.map .int))
theorem entry_ok {r : Nat} (h : Src g r) (ho0 : 1 ≤ os.length) (ho1 : os.length ≤ 8) (hr0 : 1 ≤ rs.length) (hr1 : rs.length ≤ 6) (hrw : ∀ x ∈ rs, x.1.length ≤ 8) {Q : D → G → Prop}
    (q : ∀ (t d : Int) (ns : List Int) (e : D) (g' : G), ns.length = os.length → Deed e → Only [r] g g' → Src g' r → Q (.tup [.int t, .int d, .tup (ns.map .int), e]) g') : wp (f__law_entry [.ref r, HD os rs] g) Q := by
  unfold f__law_entry b__law_entry
  have hr := h.lt
  simp [hd_0]
  unfold lz; simp
  unfold lz; simp
  refine ⟨small_int (by omega) (by omega), ?_⟩
  refine for_itL (EI g r g.length (HD os rs) os.length) ⟨Only.snoc _ _ _, h.snoc _, [], none, rfl, rfl, get_snoc _ _⟩ ?_ ?_
  · rintro i d ρ g1 hd ⟨o1, s1, ns, y, rfl, hl, a1⟩
    obtain ⟨hi, rfl⟩ := rng_at hd
    refine ⟨_, rfl, ?_⟩
    simp [lstOf_lst a1, LINE]
    refine ⟨by decide +kernel, ?_⟩
    refine take_ok (s1.snoc _) (by omega) (by omega) fun d g2 d0 d1 o2 s2 => ?_
    have e : lstOf (.ref g1.length) g2 = some (([1, 4, 30, 1000000000] : List Int).map .int) := o2.lst (lstOf_lst (get_snoc _ _)) (by have := s1.lt; simp; omega)
    obtain ⟨z, hz, ez⟩ := idx_ref_mem e d0 (by simpa using d1)
    rw [ez]
    have hz2 : 0 < z ∧ z ≤ 1000000000 := by
      simp at hz
      rcases hz with rfl | rfl | rfl | rfl <;> omega
    simp
    refine take_ok s2 hz2.1 (by omega) fun d' g3 d0' d1' o3 s3 => ?_
    have o3 := (Only.snoc [r] g1 _).trans (o2.trans o3)
    have a3 := o3.get a1 (by simp; omega)
    rw [append_lst a3]
    refine ⟨by simp; unfold LINE; omega, ?_⟩
    exact ⟨(o1.trans o3).then (Only.set (ws := [g.length]) (.inl (by simp)) _) (by simp), s3.set (by omega), ns ++ [d'], _, rfl, by simp [hl], by simpa using at_set a3⟩
  · rintro ρ g1 ⟨o1, s1, ns, y, rfl, hl, a1⟩
    simp at hl
    unfold lz; simp
    refine name_ok s1 (by omega) (by omega) fun t dd g2 o2 s2 => ?_
    have a2 := o2.get a1 (by simp; omega)
    unfold lz; simp
    rw [tuple_ref (lstOf_lst a2)]
    simp [LINE]
    refine deed_ok s2 ho0 ho1 hr0 hr1 hrw fun e g3 he o3 s3 => ?_
    exact q t dd ns e g3 hl he (o1.trans (o2.trans o3)) s3
end
end K02
end

section
set_option autoImplicit false
set_option linter.all false
namespace K02
open Py
/-- data that keeps away from r, nested to n, of widths to m -/
def V (r : Nat) (g : G) (n m : Nat) (v : D) : Prop := ∃ p, vx [r] g n v = some p ∧ smz m p = true
section
variable {r n m k : Nat} {g g' : G} {v w : D} {p : P} {os : List (List Char)} {rs : List (List Char × List Char)}
theorem V.mono (h : V r g n m v) {n' m' : Nat} (hn : n ≤ n') (hm : m ≤ m') : V r g n' m' v := by
  obtain ⟨p, e, s⟩ := h
  exact ⟨p, vx_up hn e, smz_mono hm p s⟩
theorem V.only (h : V r g n m v) (o : Only [r] g g') : V r g' n m v := by
  obtain ⟨p, e, s⟩ := h
  exact ⟨p, vx_go o (by simp) (by simp) e, s⟩
theorem viewsV {ds : List D} (h : ∀ d ∈ ds, V r g n m d) : ∃ ps, viewL (vx [r] g n) ds = some ps ∧ smzs m ps = true := by
  obtain ⟨ps, hps⟩ := viewL_ex (f := vx [r] g n) (ds := ds) fun d hd => by obtain ⟨p, e, _⟩ := h d hd; exact ⟨p, e⟩
  refine ⟨ps, hps, smzs_of fun p hp => ?_⟩
  obtain ⟨d, hd, e⟩ := viewL_memP hps hp
  obtain ⟨p', e', s⟩ := h d hd
  rw [e] at e'; cases e'
  exact s
theorem V_tup {ds : List D} (h : ∀ d ∈ ds, V r g n m d) (hl : ds.length ≤ m) : V r g (n + 1) m (.tup ds) := by
  obtain ⟨ps, e, s⟩ := viewsV h
  exact ⟨_, vx_tup e, by have := viewL_len e; simp [smz, s]; omega⟩
theorem V_lst {ds : List D} {a : Nat} (h : ∀ d ∈ ds, V r g n m d) (hl : ds.length ≤ m) (ha : a ≠ r) (hg : lstOf (.ref a) g = some ds) : V r g (n + 1) m (.ref a) := by
  obtain ⟨ps, e, s⟩ := viewsV h
  exact ⟨_, vx_lst (by simpa using ha) hg e, by have := viewL_len e; simp [smz, s]; omega⟩
theorem V.tup {ds : List D} (h : V r g n m (.tup ds)) : ∃ j, n = j + 1 ∧ ds.length ≤ m ∧ ∀ d ∈ ds, V r g j m d := by
  obtain ⟨p, e, s⟩ := h
  rcases vx_inv e with ⟨e0, _⟩ | ⟨b, e0, _⟩ | ⟨b, e0, _⟩ | ⟨b, e0, _⟩ | ⟨j, ds', ps, hj, e0, rfl, h1⟩ | ⟨j, r', xs, ps, hj, e0, _⟩ <;> cases e0
  have l := viewL_len h1
  simp [smz] at s
  refine ⟨j, hj, by omega, fun d hd => ?_⟩
  obtain ⟨q, hq, eq⟩ := viewL_mem h1 hd
  exact ⟨q, eq, smzs_mem s.2 hq⟩
theorem V_non : V r g n m .non := ⟨.non, by simp [vx], rfl⟩
theorem V_bl (b : Bool) : V r g n m (.bl b) := ⟨.bl b, by simp [vx], rfl⟩
theorem V_int (b : Int) : V r g n m (.int b) := ⟨.int b, by simp [vx], rfl⟩
theorem V_str {s : List Char} (h : s.length ≤ m) : V r g n m (.str s) := ⟨.str s, by simp [vx], by simp [smz, h]⟩
theorem V.str {s : List Char} (h : V r g n m (.str s)) : s.length ≤ m := by
  obtain ⟨p, e, s'⟩ := h
  simp [vx] at e
  subst e
  simpa [smz] using s'
theorem V.view (h : V r g n m v) (hm : m ≤ 100000) : ∃ p, view g n v = some p ∧ sm p = true := by
  obtain ⟨p, e, s⟩ := h
  exact ⟨p, vx_view e, smz_sm p (smz_mono hm p s)⟩
theorem V.ty (h : V r g n m v) : ∃ u, tyOf v g = some u := by
  obtain ⟨p, e, s⟩ := h
  exact ⟨_, ty_is (vx_view e)⟩
theorem V.kind (h : V r g n m v) : (∃ es, v = .tup es) ∨ (∃ s, v = .str s) ∨ ∃ u, tyOf v g = some u ∧ isTy .tuple u = false ∧ isTy .str u = false := by
  obtain ⟨p, e, s⟩ := h
  rcases view_inv (vx_view e) with ⟨rfl, rfl⟩ | ⟨b, rfl, rfl⟩ | ⟨b, rfl, rfl⟩ | ⟨s, rfl, rfl⟩ | ⟨m, ds, ps, e, rfl, rfl, h1⟩ | ⟨m, r, xs, ps, e, rfl, hx, rfl, h1⟩
  · exact .inr (.inr ⟨_, rfl, rfl, rfl⟩)
  · exact .inr (.inr ⟨_, rfl, rfl, rfl⟩)
  · exact .inr (.inr ⟨_, rfl, rfl, rfl⟩)
  · exact .inr (.inl ⟨_, rfl⟩)
  · exact .inl ⟨_, rfl⟩
  · exact .inr (.inr ⟨_, ty_ref hx, rfl, rfl⟩)
theorem odd_ok {count : Int} (h : Src g r) {Q : D → G → Prop} (q : ∀ (v : D) (g' : G), V r g' 2 61 v → Only [r] g g' → Src g' r → Q v g') : wp (f__law_odd [.ref r, .int count] g) Q := by
  unfold f__law_odd b__law_odd
  have hr := h.lt
  simp [LINE]
  unfold lz; simp [LINE]
  generalize hA : [D.non, D.bl true, D.bl false, D.int (-1), D.int 0, D.int 1, D.int 2, D.int count, D.str [], D.str ['s', 'a', 'y'], D.str ['e', 'd', 'i', 't'], D.str ['a', '\n'], D.tup [], D.ref (List.length g), D.tup [D.int 1, D.int 0], D.ref (List.length g + 1), D.tup [D.int 0, D.int 0], D.tup [D.int 1, D.bl true]] = A
  generalize hB : [D.tup [D.bl true, D.int 0], D.tup [D.int 1, D.int count], D.tup [D.int 1, D.int (-1)], D.tup [D.int 1], D.tup [D.int 1, D.int 0, D.int 0], D.tup [D.tup [D.int 1, D.int 0]], D.str _, D.tup [D.int 1, D.str ['0']]] = B
  have o : Only [r] g (g ++ [.lst [], .lst [.int 1, .int 0], .lst A, .lst B]) := ⟨by simp, fun i hi _ => List.getElem?_append_left hi⟩
  have e0 : (g ++ [.lst [], .lst [.int 1, .int 0], .lst A, .lst B])[g.length]? = some (.lst []) := by simp
  have e1 : (g ++ [.lst [], .lst [.int 1, .int 0], .lst A, .lst B])[g.length + 1]? = some (.lst [.int 1, .int 0]) := by simp
  have e2 : (g ++ [.lst [], .lst [.int 1, .int 0], .lst A, .lst B])[g.length + 2]? = some (.lst A) := by simp
  have e3 : (g ++ [.lst [], .lst [.int 1, .int 0], .lst A, .lst B])[g.length + 3]? = some (.lst B) := by simp
  have s : Src (g ++ [.lst [], .lst [.int 1, .int 0], .lst A, .lst B]) r := by
    obtain ⟨c, m, e, z⟩ := h
    exact ⟨c, m, by rw [List.getElem?_append_left hr]; exact e, z⟩
  generalize g ++ [.lst [], .lst [.int 1, .int 0], .lst A, .lst B] = G at o e0 e1 e2 e3 s
  rw [add_lst e2 e3]
  have hAl : A.length = 18 := by rw [← hA]; rfl
  have hBl : B.length = 8 := by rw [← hB]; rfl
  refine ⟨by unfold LINE; omega, ?_⟩
  have V0 : V r G 1 61 (.ref g.length) := V_lst (ds := []) (by simp) (by simp) (by omega) (lstOf_lst e0)
  have V1 : V r G 1 61 (.ref (g.length + 1)) := V_lst (ds := [.int 1, .int 0]) (by intro d hd; simp at hd; rcases hd with rfl | rfl <;> exact V_int _) (by simp) (by omega) (lstOf_lst e1)
  have hV : ∀ d ∈ A ++ B, V r G 2 61 d := by
    have pr : ∀ a b : Int, V r G 2 61 (.tup [.int a, .int b]) := fun a b => V_tup (by intro d hd; simp at hd; rcases hd with rfl | rfl <;> exact V_int _) (by simp)
    intro d hd
    rcases List.mem_append.mp hd with hd | hd
    · rw [← hA] at hd
      simp only [List.mem_cons, List.not_mem_nil, or_false] at hd
      rcases hd with rfl | rfl | rfl | rfl | rfl | rfl | rfl | rfl | rfl | rfl | rfl | rfl | rfl | rfl | rfl | rfl | rfl | rfl
      · exact V_non
      · exact V_bl _
      · exact V_bl _
      · exact V_int _
      · exact V_int _
      · exact V_int _
      · exact V_int _
      · exact V_int _
      · exact V_str (by simp)
      · exact V_str (by simp)
      · exact V_str (by simp)
      · exact V_str (by simp)
      · exact V_tup (by simp) (by simp)
      · exact V0.mono (by omega) (by omega)
      · exact pr _ _
      · exact V1.mono (by omega) (by omega)
      · exact pr _ _
      · exact V_tup (by intro d hd; simp at hd; rcases hd with rfl | rfl; exact V_int _; exact V_bl _) (by simp)
    · rw [← hB] at hd
      simp only [List.mem_cons, List.not_mem_nil, or_false] at hd
      rcases hd with rfl | rfl | rfl | rfl | rfl | rfl | rfl | rfl
      · exact V_tup (by intro d hd; simp at hd; rcases hd with rfl | rfl; exact V_bl _; exact V_int _) (by simp)
      · exact pr _ _
      · exact pr _ _
      · exact V_tup (by intro d hd; simp at hd; subst hd; exact V_int _) (by simp)
      · exact V_tup (by intro d hd; simp at hd; rcases hd with rfl | rfl <;> exact V_int _) (by simp)
      · refine V_tup (by intro d hd; simp at hd; subst hd; exact V_tup (by intro d hd; simp at hd; rcases hd with rfl | rfl <;> exact V_int _) (by simp)) (by simp)
      · exact V_str (by simp)
      · exact V_tup (by intro d hd; simp at hd; rcases hd with rfl | rfl; exact V_int _; exact V_str (by simp)) (by simp)
  unfold lz; simp
  refine take_ok (s.snoc _) (by omega) (by omega) fun d g2 d0 d1 o2 s2 => ?_
  have e : lstOf (.ref G.length) g2 = some ((A ++ B).map id) := by rw [List.map_id]; exact o2.lst (lstOf_lst (get_snoc _ _)) (by have := s.lt; simp; omega)
  obtain ⟨z, hz, ez⟩ := idx_ref_mem e d0 (by simp [hAl, hBl]; exact d1)
  rw [ez]
  have o3 := (Only.snoc [r] G (.lst (A ++ B))).trans o2
  exact q z g2 ((hV z hz).only o3) (o.trans o3) s2
theorem V_put {ds : List D} {i : Nat} (h : ∀ d ∈ ds, V r g n m d) (hl : ds.length ≤ m) (hv : V r g n (m + 1) v) : V r g (n + 1) (m + 1) (.tup (ds.take i ++ [v] ++ ds.drop (i + 1))) := by
  refine V_tup (fun d hd => ?_) ?_
  · simp only [List.mem_append, List.mem_singleton] at hd
    rcases hd with (hd | rfl) | hd
    · exact (h d (List.mem_of_mem_take hd)).mono (Nat.le_refl _) (by omega)
    · exact hv
    · exact (h d (List.mem_of_mem_drop hd)).mono (Nat.le_refl _) (by omega)
  · simp only [List.length_append, List.length_take, List.length_drop, List.length_singleton]; omega
theorem put_V {ds : List D} {i : Int} (h0 : 0 ≤ i) (h : ∀ d ∈ ds, V r g n m d) (hl : ds.length ≤ m) (hm : m ≤ 1000) (hv : V r g n (m + 1) v) {Q : D → G → Prop} (q : ∀ ds', V r g (n + 1) (m + 1) (.tup ds') → Q (.tup ds') g) : wp (f__law_put [.tup ds, .int i, v] g) Q :=
  put_ok h0 (by omega) (q _ (V_put h hl hv))
theorem spoil_deed_ok {ds : List D} (h : Src g r) (hd : V r g 4 m (.tup ds)) (hne : ds ≠ []) (hm : 61 ≤ m) (hm2 : m ≤ 900) {Q : D → G → Prop} (q : ∀ (v : D) (g' : G), V r g' 4 (m + 1) v → Only [r] g g' → Src g' r → Q v g') : wp (f__law_spoil_deed [.ref r, HD os rs, .tup ds] g) Q := by
  unfold f__law_spoil_deed b__law_spoil_deed
  obtain ⟨j, hj, hl, hds⟩ := hd.tup
  cases hj
  have hp : 0 < ds.length := List.length_pos_iff.mpr hne
  simp [hd_0]
  unfold lz; simp
  refine take_ok h (by omega) (by omega) fun at_ g1 a0 a1 o1 s1 => ?_
  unfold lz; simp
  refine take_ok s1 (by omega) (by omega) fun turn g2 t0 t1 o2 s2 => ?_
  unfold lz; simp
  refine odd_ok s2 fun odd g3 hodd o3 s3 => ?_
  have o3 := o1.trans (o2.trans o3)
  clear o1 o2 s1 s2
  have hds3 : ∀ d ∈ ds, V r g3 3 m d := fun d hd => (hds d hd).only o3
  have hodd3 : V r g3 3 (m + 1) odd := hodd.mono (by omega) (by omega)
  unfold lz; simp
  by_cases c0 : turn = 0
  · rw [if_pos c0]
    simp [newL]
    refine q _ _ (V_lst (n := 3) (fun d hd => ((hds3 d hd).mono (Nat.le_refl _) (by omega)).only (Only.snoc _ _ _)) (by omega) (by have := s3.lt; omega) (lstOf_lst (get_snoc _ _))) (o3.trans (Only.snoc _ _ _)) (s3.snoc _)
  rw [if_neg c0]
  unfold lz; simp
  by_cases c1 : turn = 1
  · rw [if_pos c1]
    rw [cut_hd _ (by omega)]
    exact q _ _ (V_tup (n := 3) (fun d hd => (hds3 d (List.mem_of_mem_take hd)).mono (Nat.le_refl _) (by omega)) (by rw [List.length_take]; omega)) o3 s3
  rw [if_neg c1]
  unfold lz; simp
  by_cases c2 : turn = 2
  · rw [if_pos c2]
    simp [LINE]
    refine ⟨by omega, q _ _ (V_tup (n := 3) (fun d hd => ?_) (by simp; omega)) o3 s3⟩
    simp at hd
    rcases hd with hd | rfl
    · exact (hds3 d hd).mono (Nat.le_refl _) (by omega)
    · exact hodd3
  rw [if_neg c2]
  unfold lz; simp
  by_cases c3 : turn = 3
  · rw [if_pos c3]
    simp [LINE]
    unfold lz; simp
    refine take_ok (s3.snoc _) (by omega) (by omega) fun d g4 d0 d1 o4 s4 => ?_
    obtain ⟨kd, hk, ek⟩ := idx_ref_mem (g := g4) (r := g3.length) (xs := [['s', 'a', 'y'], ['e', 'd', 'i', 't'], ['d', 'r', 'o', 'p'], ['r', 'e', 'a', 'd'], ['c', 'o', 'm', 'e'], ['g', 'o'], ['S', 'a', 'y'], ['r', 'e', 'a', 'd', 's']]) (f := D.str) (i := d) (o4.lst (lstOf_lst (get_snoc _ _)) (by have := s3.lt; simp; omega)) d0 (by simpa using d1)
    rw [ek]
    have o4 := (Only.snoc [r] g3 _).trans o4
    simp
    refine put_V (by omega) (fun d hd => (hds3 d hd).only o4) hl (by omega) (V_str ?_) fun ds' hv => q _ _ hv (o3.trans o4) s4
    simp at hk
    rcases hk with rfl | rfl | rfl | rfl | rfl | rfl | rfl | rfl <;> simp <;> omega
  rw [if_neg c3]
  unfold lz; simp
  obtain ⟨part, ep, hpm⟩ := atI_mem a0 a1
  rw [ep]
  simp
  have hpart := hds3 part hpm
  have hput : ∀ v g4, V r g4 3 (m + 1) v → Only [r] g3 g4 → Src g4 r → wp (f__law_put [.tup ds, .int at_, v] g4) Q := fun v g4 hv o4 s4 => put_V a0 (fun d hd => (hds3 d hd).only o4) hl (by omega) hv fun ds' hv => q _ _ hv (o3.trans o4) s4
  have hfin := hput odd g3 hodd3 (Only.refl _ _) s3
  have t1 : isTy .tuple (some .tuple) = true := rfl
  have t2 : isTy .str (some .tuple) = false := rfl
  have t3 : isTy .tuple (some .str) = false := rfl
  have t4 : isTy .str (some .str) = true := rfl
  unfold lz; simp
  rcases hpart.kind with ⟨es, rfl⟩ | ⟨cs, rfl⟩ | ⟨u, u1, u2, u3⟩
  · simp [t1, t2]
    obtain ⟨jj, hjj, hel, hes⟩ := hpart.tup
    cases hjj
    by_cases c4 : turn = 4
    · rw [if_pos c4]
      refine take_ok s3 (by omega) (by omega) fun d g4 d0 d1 o4 s4 => ?_
      refine put_V d0 (fun d hd => (hes d hd).only o4) hel (by omega) ((hodd.only o4).mono (by omega) (by omega)) fun ds' hv => ?_
      exact hput _ g4 hv o4 s4
    · rw [if_neg c4]
      unfold lz; simp [t1, t2]
      unfold lz; simp [t1, t2]
      unfold lz; simp
      exact hfin
  · simp [t3, t4]
    have hcl := hpart.str
    have hll : cs.length ≤ LINE := by unfold LINE; omega
    unfold lz; simp [t3, t4]
    by_cases c5 : turn = 5
    · rw [if_pos c5]
      simp [hll]
      refine take_ok s3 (by omega) (by omega) fun d g4 d0 d1 o4 s4 => ?_
      unfold lz; simp [hll]
      refine take_ok s4 (by omega) (by omega) fun d4 g5 d40 d41 o5 s5 => ?_
      obtain ⟨c, hc⟩ := idx_str_mem (g := g5) (cs := ['\n', '\t', '~', ' ']) (by decide +kernel) d40 d41
      simp at hc
      simp [hc]
      rw [cut_hd _ d0, cut_tl _ (by omega)]
      have l1 : (cs.take d.toNat).length = d.toNat := by rw [List.length_take]; omega
      have l2 : (cs.drop (d + 1).toNat).length = cs.length - (d + 1).toNat := by rw [List.length_drop]
      refine ⟨by unfold LINE; omega, by unfold LINE; omega, hput _ g5 (V_str ?_) (o4.trans o5) s5⟩
      simp only [List.length_append, List.length_cons, l1, l2]; omega
    · rw [if_neg c5]
      unfold lz; simp [t3, t4]
      by_cases c6 : turn = 6
      · rw [if_pos c6]
        refine ⟨by unfold LINE; omega, ?_⟩
        refine take_ok s3 (by omega) (by omega) fun d g4 d0 d1 o4 s4 => ?_
        simp
        refine ⟨by unfold LINE; omega, hput _ g4 (V_str ?_) o4 s4⟩
        rw [cut_hd _ (by omega), List.length_take]
        omega
      · rw [if_neg c6]
        unfold lz; simp
        exact hfin
  · simp [u1, u2, u3]
    unfold lz; simp [u1, u2, u3]
    unfold lz; simp [u1, u2, u3]
    unfold lz; simp
    exact hfin
theorem spoil_ok {a b : D} {sn es : List D} (h : Src g r) (ha : V r g 4 m a) (hb : V r g 4 m b) (hs : V r g 4 m (.tup sn)) (he : V r g 4 m (.tup es)) (hne : es ≠ []) (ho0 : 1 ≤ os.length) (ho1 : os.length ≤ 8) (hsl : sn.length = os.length) (hm : 61 ≤ m) (hm2 : m ≤ 900) {Q : D → G → Prop}
    (q : ∀ (v : D) (g' : G), V r g' 5 (m + 2) v → Only [r] g g' → Src g' r → Q v g') : wp (f__law_spoil [.ref r, HD os rs, .tup [a, b, .tup sn, .tup es]] g) Q := by
  unfold f__law_spoil b__law_spoil
  obtain ⟨j, hj, hl, hsn⟩ := hs.tup
  cases hj
  simp [hd_0]
  unfold lz; simp
  unfold lz; simp
  refine take_ok h (by omega) (by omega) fun turn g1 t0 t1 o1 s1 => ?_
  unfold lz; simp
  refine odd_ok s1 fun odd g3 hodd o3 s3 => ?_
  have o3 := o1.trans o3
  clear o1 s1
  have ha := ha.only o3
  have hb := hb.only o3
  have hs := hs.only o3
  have he := he.only o3
  have hsn : ∀ d ∈ sn, V r g3 3 m d := fun d hd => (hsn d hd).only o3
  have hit : ∀ d ∈ [a, b, .tup sn, .tup es], V r g3 4 m d := by
    intro d hd
    simp at hd
    rcases hd with rfl | rfl | rfl | rfl <;> assumption
  have hput : ∀ (i : Int) v g4, 0 ≤ i → V r g4 4 (m + 1) v → Only [r] g3 g4 → Src g4 r → wp (f__law_put [.tup [a, b, .tup sn, .tup es], .int i, v] g4) Q := fun i v g4 h0 hv o4 s4 => put_V h0 (fun d hd => (hit d hd).only o4) (by simp; omega) (by omega) hv fun ds' hv => q _ _ (hv.mono (Nat.le_refl _) (by omega)) (o3.trans o4) s4
  have hodd4 : V r g3 4 (m + 1) odd := hodd.mono (by omega) (by omega)
  unfold lz; simp
  by_cases c0 : turn = 0
  · rw [if_pos c0]
    simp [newL]
    exact q _ _ (V_lst (n := 4) (fun d hd => ((hit d hd).mono (Nat.le_refl _) (by omega)).only (Only.snoc _ _ _)) (by simp; omega) (by have := s3.lt; omega) (lstOf_lst (get_snoc _ _))) (o3.trans (Only.snoc _ _ _)) (s3.snoc _)
  rw [if_neg c0]
  unfold lz; simp
  by_cases c1 : turn = 1
  · rw [if_pos c1]
    rw [cut_hd _ (by omega)]
    exact q _ _ (V_tup (n := 4) (fun d hd => (hit d (List.mem_of_mem_take hd)).mono (Nat.le_refl _) (by omega)) (by rw [List.length_take]; simp; omega)) o3 s3
  rw [if_neg c1]
  unfold lz; simp
  by_cases c2 : turn = 2
  · rw [if_pos c2]
    simp [LINE]
    refine q _ _ (V_tup (n := 4) (fun d hd => ?_) (by simp; omega)) o3 s3
    simp at hd
    rcases hd with rfl | rfl | rfl | rfl | rfl
    · exact ha.mono (Nat.le_refl _) (by omega)
    · exact hb.mono (Nat.le_refl _) (by omega)
    · exact hs.mono (Nat.le_refl _) (by omega)
    · exact he.mono (Nat.le_refl _) (by omega)
    · exact hodd4.mono (Nat.le_refl _) (by omega)
  rw [if_neg c2]
  unfold lz; simp
  by_cases c3 : turn < 5
  · rw [if_pos c3]
    refine take_ok s3 (by omega) (by omega) fun d g4 d0 d1 o4 s4 => ?_
    exact hput _ _ _ d0 (hodd4.only o4) o4 s4
  rw [if_neg c3]
  unfold lz; simp
  by_cases c4 : turn = 5
  · rw [if_pos c4]
    simp [LINE]
    refine take_ok (s3.snoc _) (by omega) (by omega) fun d g4 d0 d1 o4 s4 => ?_
    obtain ⟨z, hz, ez⟩ := idx_ref_mem (g := g4) (r := g3.length) (xs := ([os.length, -1, 0, os.length - 1] : List Int)) (f := D.int) (i := d) (o4.lst (lstOf_lst (get_snoc _ _)) (by have := s3.lt; simp; omega)) d0 (by simpa using d1)
    rw [ez]
    simp
    exact hput 1 _ _ (by omega) (V_int _) ((Only.snoc [r] g3 _).trans o4) s4
  rw [if_neg c4]
  unfold lz; simp
  by_cases c5 : turn = 6
  · rw [if_pos c5]
    simp [newL]
    refine hput _ _ _ (by omega) (V_lst (n := 3) (fun d hd => ((hsn d hd).mono (Nat.le_refl _) (by omega)).only (Only.snoc _ _ _)) (by omega) (by have := s3.lt; omega) (lstOf_lst (get_snoc _ _))) (Only.snoc _ _ _) (s3.snoc _)
  rw [if_neg c5]
  unfold lz; simp
  by_cases c6 : turn = 7
  · rw [if_pos c6]
    rw [cut_hd _ (by omega)]
    exact hput _ _ _ (by omega) (V_tup (n := 3) (fun d hd => (hsn d (List.mem_of_mem_take hd)).mono (Nat.le_refl _) (by omega)) (by rw [List.length_take]; omega)) (Only.refl _ _) s3
  rw [if_neg c6]
  unfold lz; simp
  by_cases c7 : turn = 8
  · rw [if_pos c7]
    simp [LINE]
    refine ⟨by omega, hput _ _ _ (by omega) (V_tup (n := 3) (fun d hd => ?_) (by simp; omega)) (Only.refl _ _) s3⟩
    simp at hd
    rcases hd with hd | rfl
    · exact (hsn d hd).mono (Nat.le_refl _) (by omega)
    · exact V_int _
  rw [if_neg c7]
  unfold lz; simp
  by_cases c8 : turn < 11
  · rw [if_pos c8]
    refine take_ok s3 (by omega) (by omega) fun d g4 d0 d1 o4 s4 => ?_
    refine put_V d0 (fun d hd => (hsn d hd).only o4) hl (by omega) ((hodd.only o4).mono (by omega) (by omega)) fun ds' hv => ?_
    exact hput _ _ _ (by omega) hv o4 s4
  rw [if_neg c8]
  unfold lz; simp
  refine spoil_deed_ok s3 he hne hm hm2 fun v g4 hv o4 s4 => ?_
  exact hput _ _ _ (by omega) hv o4 s4
end
end K02
end

section
set_option autoImplicit false
set_option linter.all false
namespace K02
open Py
section
variable {r n m k : Nat} {g g' : G} {v w : D} {p : P} {os : List (List Char)} {rs : List (List Char × List Char)}
def Walk (g : G) (v : D) (ds : List D) : Prop := ∀ g', Only [] g g' → ∃ it, iterOf v g' = some it ∧ it.n = ds.length ∧ ∀ i g'', Only [] g g'' → it.get i g'' = some ds[i]?
theorem V.seq (h : V r g n m v) : (∃ (ds : List D) (j : Nat) (u : Ty), n = j + 1 ∧ Walk g v ds ∧ ds.length ≤ m ∧ (∀ d ∈ ds, V r g j m d) ∧ (∀ g', Only [] g g' → tyOf v g' = some (some u)) ∧ (u = .tuple ∨ u = .list)) ∨
    (∃ u, (∀ g', Only [] g g' → tyOf v g' = some u) ∧ isTy .tuple u = false ∧ isTy .list u = false) := by
  obtain ⟨p, e, s⟩ := h
  rcases vx_inv e with ⟨rfl, rfl⟩ | ⟨b, rfl, rfl⟩ | ⟨b, rfl, rfl⟩ | ⟨b, rfl, rfl⟩ | ⟨j, ds, ps, hj, rfl, rfl, h1⟩ | ⟨j, a, ds, ps, hj, rfl, ha, hx, rfl, h1⟩
  · exact .inr ⟨_, fun _ _ => rfl, rfl, rfl⟩
  · exact .inr ⟨_, fun _ _ => rfl, rfl, rfl⟩
  · exact .inr ⟨_, fun _ _ => rfl, rfl, rfl⟩
  · exact .inr ⟨_, fun _ _ => rfl, rfl, rfl⟩
  · have l := viewL_len h1
    simp [smz] at s
    refine .inl ⟨ds, j, .tuple, hj, fun g' _ => ⟨itL ds, rfl, rfl, fun _ _ _ => rfl⟩, by omega, fun d hd => ?_, fun _ _ => rfl, .inl rfl⟩
    obtain ⟨q, hq, eq⟩ := viewL_mem h1 hd
    exact ⟨q, eq, smzs_mem s.2 hq⟩
  · have l := viewL_len h1
    simp [smz] at s
    refine .inl ⟨ds, j, .list, hj, fun g' o => ⟨itR a ds.length, iter_ref (o.lst hx (by simp)), rfl, fun i g'' o' => ?_⟩, by omega, fun d hd => ?_, fun g' o => ty_ref (o.lst hx (by simp)), .inr rfl⟩
    · show (lstOf (.ref a) g'').map (fun xs => xs[i]?) = _
      rw [o'.lst hx (by simp)]; rfl
    · obtain ⟨q, hq, eq⟩ := viewL_mem h1 hd
      exact ⟨q, eq, smzs_mem s.2 hq⟩
theorem V.keep (h : V r g n m v) (o : Only [] g g') : V r g' n m v := h.only ⟨o.len, fun i hi _ => o.keep i hi (by simp)⟩
def PI (g : G) (v : D) (r m : Nat) (c : Nat) (ρ : Env) (g' : G) : Prop := Only [] g g' ∧ ∃ (acc : List D) (y2 y3 : Option D), ρ = [some v, some (.ref g.length), y2, y3] ∧ g'[g.length]? = some (.lst acc) ∧ (∀ x ∈ acc, V r g 5 m x) ∧ acc.length ≤ c
theorem PI.mono {c c' : Nat} {ρ : Env} (h : PI g v r m c ρ g') (hc : c ≤ c') : PI g v r m c' ρ g' := by
  obtain ⟨o, acc, y2, y3, e, a, hv, hl⟩ := h
  exact ⟨o, acc, y2, y3, e, a, hv, by omega⟩
theorem parts_ok (h : V r g 5 m v) (hm : m ≤ 1000) {Q : D → G → Prop} (q : ∀ (acc : List D) (g' : G), Only [] g g' → g'[g.length]? = some (.lst acc) → (∀ x ∈ acc, V r g 5 m x) → acc.length ≤ 2000000 → Q (.ref g.length) g') : wp (f__law_parts [v] g) Q := by
  unfold f__law_parts b__law_parts
  simp [LINE]
  have push : ∀ (x : D) (acc : List D) (g1 : G), Only [] g g1 → g1[g.length]? = some (.lst acc) → (∀ x ∈ acc, V r g 5 m x) → acc.length ≤ 2000000 → V r g 5 m x → Only [] g (g1.set g.length (.lst (acc ++ [x]))) ∧ (g1.set g.length (.lst (acc ++ [x])))[g.length]? = some (.lst (acc ++ [x])) ∧ ∀ y ∈ acc ++ [x], V r g 5 m y := by
    intro x acc g1 o a hv hl hx
    refine ⟨o.then (Only.set (ws := [g.length]) (.inl (by simp)) _) (by simp), at_set a, fun y hy => ?_⟩
    rcases List.mem_append.mp hy with hy | hy
    · exact hv y hy
    · cases List.mem_singleton.mp hy; exact hx
  have last : ∀ ρ g1 (k : Kt), PI g v r m 1500000 ρ g1 → k.rt = Q → lz q2__law_parts ρ g1 k := by
    rintro ρ g1 k ⟨o, acc, y2, y3, rfl, a, hv, hl⟩ hk
    unfold lz; simp [hk]
    exact q acc g1 o a hv (by omega)
  have st : PI g v r m 1 [some v, some (.ref g.length), none, none] (g ++ [.lst [v]]) := ⟨Only.snoc _ _ _, [v], none, none, rfl, get_snoc _ _, by intro x hx; simp at hx; subst hx; exact h, by simp⟩
  unfold lz; simp
  have main : ∀ (ds : List D) (j : Nat), 5 = j + 1 → Walk g v ds → ds.length ≤ m → (∀ d ∈ ds, V r g j m d) → wpS (sFor (iAny (mVar 0)) (gName 2) w2__law_parts [some v, some (.ref g.length), none, none] (g ++ [.lst [v]])) ⟨fun ρ g => lz q2__law_parts ρ g ⟨fun _ g => Q .non g, Q, fun _ _ => False, fun _ _ => False⟩, Q, fun _ _ => False, fun _ _ => False⟩ := by
    intro ds j hj hw hl hds
    cases hj
    obtain ⟨it, e1, e2, e3⟩ := hw (g ++ [.lst [v]]) (Only.snoc _ _ _)
    simp [e1, e2]
    refine for_by (ds := ds) (fun i ρ g' => PI g v r m (1 + i * (m + 1)) ρ g') (fun i ρ g' hI => e3 i g' hI.1) ?_ ?_ _ 0 _ _ rfl (Nat.zero_le _) (st.mono (by omega))
    · rintro i d ρ g1 hd ⟨o, acc, y2, y3, rfl, a, hv, hal⟩
      have hi := (List.getElem?_eq_some_iff.mp hd).1
      have hmul : i * (m + 1) ≤ 1000 * 1001 := Nat.mul_le_mul (by omega) (by omega)
      have hmul2 : (i + 1) * (m + 1) = i * (m + 1) + (m + 1) := by rw [Nat.add_mul, Nat.one_mul]
      have hdV := hds d (List.mem_of_getElem? hd)
      refine ⟨_, rfl, ?_⟩
      simp [lstOf_lst a]
      rw [append_lst a]
      refine ⟨by unfold LINE; omega, ?_⟩
      obtain ⟨o1, a1, hv1⟩ := push d acc g1 o a hv (by omega) (hdV.mono (by omega) (Nat.le_refl _))
      generalize g1.set g.length (.lst (acc ++ [d])) = g2 at o1 a1
      unfold lz; simp
      have fin : PI g v r m (1 + (i + 1) * (m + 1)) [some v, some (.ref g.length), some d, y3] g2 := ⟨o1, acc ++ [d], _, _, rfl, a1, hv1, by simp; omega⟩
      rcases hdV.seq with ⟨es, jj, u, hjj, hwk, hel, hes, hty, hu⟩ | ⟨u, hty, hu1, hu2⟩
      · obtain ⟨it, f1, f2, f3⟩ := hwk g2 o1
        have inner : ∀ κ : Kt, κ.nx = PI g v r m (1 + (i + 1) * (m + 1)) → wpS (forGo it.get (gName 3) w1__law_parts (es.length + 1) 0 [some v, some (.ref g.length), some d, y3] g2) κ := by
          intro κ hκ
          refine for_by (ds := es) (fun jx ρ g' => PI g v r m (2 + i * (m + 1) + jx) ρ g') (fun i ρ g' hI => f3 i g' hI.1) ?_ ?_ _ 0 _ _ rfl (Nat.zero_le _) ⟨o1, acc ++ [d], _, _, rfl, a1, hv1, by simp; omega⟩
          · rintro jx x ρ g3 hx ⟨o3, acc3, y2', y3', rfl, a3, hv3, hal3⟩
            have hjx := (List.getElem?_eq_some_iff.mp hx).1
            refine ⟨_, rfl, ?_⟩
            simp [lstOf_lst a3]
            rw [append_lst a3]
            refine ⟨by unfold LINE; omega, ?_⟩
            obtain ⟨o4, a4, hv4⟩ := push x acc3 g3 o3 a3 hv3 (by omega) ((hes x (List.mem_of_getElem? hx)).mono (by omega) (Nat.le_refl _))
            exact ⟨o4, acc3 ++ [x], _, _, rfl, a4, hv4, by simp; omega⟩
          · intro ρ g3 hI
            rw [hκ]
            exact hI.mono (by omega)
        rcases hu with rfl | rfl
        · simp [hty g2 o1, isTy, f1, f2]
          exact inner _ rfl
        · simp [hty g2 o1, isTy, f1, f2]
          exact inner _ rfl
      · simp [hty g2 o1, hu1, hu2]
        exact fin
    · intro ρ g1 hI
      refine last ρ g1 _ (hI.mono ?_) rfl
      have hmul : ds.length * (m + 1) ≤ 1000 * 1001 := Nat.mul_le_mul (by omega) (by omega)
      omega
  rcases h.seq with ⟨ds, j, u, hj, hwk, hel, hes, hty, hu⟩ | ⟨u, hty, hu1, hu2⟩
  · have := main ds j hj hwk hel hes
    simp at this
    rcases hu with rfl | rfl
    · simp [hty _ (Only.snoc _ _ _), isTy]
      exact this
    · simp [hty _ (Only.snoc _ _ _), isTy]
      exact this
  · simp [hty _ (Only.snoc _ _ _), hu1, hu2]
    exact last _ _ _ (st.mono (by omega)) rfl
end
end K02
end

section
set_option autoImplicit false
set_option linter.all false
namespace K02
open Py
section
variable {r n m k : Nat} {g g' : G} {v w : D} {p : P} {os : List (List Char)} {rs : List (List Char × List Char)}
theorem Deed.V {e : D} (h : Deed e) (r : Nat) (g : G) : ∃ es, e = .tup es ∧ es ≠ [] ∧ K02.V r g 2 61 (.tup es) := by
  obtain ⟨kd, rm, rr, ps, rfl, h1, h2, h3, h4, h5, h6⟩ := h.is
  refine ⟨_, rfl, by simp, V_tup (fun d hd => ?_) (by have := viewL_len h1; simp; omega)⟩
  simp at hd
  rcases hd with rfl | rfl | hd
  · exact V_str h4
  · exact V_str h5
  · obtain ⟨q, hq, e⟩ := viewL_mem h1 hd
    exact ⟨q, vx_free e, smzs_mem h2 hq⟩
theorem V.tupk (h : V r g n m v) : (∃ es, v = .tup es) ∨ ∃ u, tyOf v g = some u ∧ isTy .tuple u = false := by
  rcases h.kind with ⟨es, rfl⟩ | ⟨s, rfl⟩ | ⟨u, u1, u2, _⟩
  · exact .inl ⟨_, rfl⟩
  · exact .inr ⟨_, rfl, rfl⟩
  · exact .inr ⟨u, u1, u2⟩
/-- the last lines of the law -/
theorem law_end {t d : Int} {ns : List Int} {e value : D} {r : Nat} (hS : Src g r) (hr : rs.length ≤ 6) (hns : ns ≠ []) (hnl : ns.length ≤ 8) (he : Deed e) (hv : V r g 5 900 value) (s y1 y2 : Option D) {κ : Kt} (hκ : ∀ g', κ.rt (.bl true) g') :
    lz q2_law [s, some (HD os rs), some (.tup [.int t, .int d, .tup (ns.map .int), e]), some (.ref r), some value, y1, y2] g κ := by
  unfold lz; simp
  refine parts_ok hv (by omega) fun acc g1 o1 a1 hacc hal => ?_
  have hS1 : Src g1 r := by
    obtain ⟨c, m, e, z⟩ := hS
    exact ⟨c, m, o1.get e (by simp), z⟩
  simp [hd_0]
  refine odd_ok hS1 fun odd g2 hodd o2 s2 => ?_
  refine text_ok s2 fun tx g3 htx o3 s3 => ?_
  simp
  refine ⟨by unfold LINE; omega, by unfold LINE; omega, ?_⟩
  have o12 : Only [r] g g3 := ((Only.mono o1 (by simp)).trans (o2.trans o3))
  have a3 : g3[g.length]? = some (.lst acc) := o3.get (o2.get a1 (by have := hS.lt; simp; omega)) (by have := hS.lt; simp; omega)
  rw [add_lst (at_snoc a3) (get_snoc _ _)]
  refine ⟨by simp; unfold LINE; omega, ?_⟩
  simp only [List.append_assoc, List.cons_append, List.nil_append]
  have oG : Only [r] g3 (g3 ++ [.lst [odd, .str (tx ++ ['\t'])], .lst (acc ++ [odd, .str (tx ++ ['\t'])])]) := ⟨by simp, fun i hi _ => List.getElem?_append_left hi⟩
  have eG : (g3 ++ [.lst [odd, .str (tx ++ ['\t'])], .lst (acc ++ [odd, .str (tx ++ ['\t'])])])[g3.length + 1]? = some (.lst (acc ++ [odd, .str (tx ++ ['\t'])])) := by simp
  have hL : ∀ x ∈ acc ++ [odd, .str (tx ++ ['\t'])], K02.V r (g3 ++ [.lst [odd, .str (tx ++ ['\t'])], .lst (acc ++ [odd, .str (tx ++ ['\t'])])]) 5 900 x := by
    intro x hx
    simp at hx
    rcases hx with hx | rfl | rfl
    · exact (hacc x hx).only (o12.trans oG)
    · exact ((hodd.only o3).only oG).mono (by omega) (by omega)
    · exact V_str (by simp; omega)
  generalize hG : g3 ++ [.lst [odd, .str (tx ++ ['\t'])], .lst (acc ++ [odd, .str (tx ++ ['\t'])])] = G at oG eG hL ⊢
  generalize hA : acc ++ [odd, .str (tx ++ ['\t'])] = L at eG hL ⊢
  simp [iter_ref (lstOf_lst eG)]
  refine for_itR (ds := L) (fun i ρ g' => Only [] G g' ∧ ∃ y, ρ = [s, some (HD os rs), some (.tup [.int t, .int d, .tup (ns.map .int), e]), some (.ref r), some value, y1, y]) ⟨Only.refl _ _, y2, rfl⟩ ?_ ?_ ?_
  · rintro i ρ g' ⟨o, _⟩
    exact o.lst (lstOf_lst eG) (by simp)
  · rintro i x ρ g' hx ⟨o, y, rfl⟩
    refine ⟨_, rfl, ?_⟩
    obtain ⟨p, hp, hsm⟩ := ((hL x (List.mem_of_getElem? hx)).keep o).view (by omega)
    simp
    refine judged_ok (by omega) hp (by omega) hsm fun g4 o4 => ?_
    simp
    exact o.trans o4
  · rintro ρ g' ⟨o, y, rfl⟩
    unfold lz; simp
    obtain ⟨es, rfl, _, hes⟩ := he.V r g'
    have hV : K02.V r g' 4 900 (.tup [.int t, .int d, .tup (ns.map .int), .tup es]) := by
      refine V_tup (n := 3) (fun x hx => ?_) (by simp)
      simp at hx
      rcases hx with rfl | rfl | rfl | rfl
      · exact V_int _
      · exact V_int _
      · refine V_tup (n := 2) (fun x hx => ?_) (by simp; omega)
        obtain ⟨z, _, rfl⟩ := List.mem_map.mp hx
        exact V_int _
      · exact hes.mono (by omega) (by omega)
    obtain ⟨p, hp, hsm⟩ := hV.view (by omega)
    refine judged_ok (by omega) hp (by omega) hsm fun g4 o4 => ?_
    simp
    exact read_ok hns (by omega) he fun g5 o5 => hκ g5
theorem law_ok {s : Nat} {is : List Int} (h : g[s]? = some (.frz (is.map .int))) : wp (f_law [.ref s] g) fun v _ => v = .bl true := by
  unfold f_law b_law
  simp
  have h := lstOf_frz h
  refine source_ok h (by omega) (by omega) fun c m c0 m0 m1 => ?_
  have s1 : Src (g ++ [.lst [.int c, .int m]]) g.length := ⟨c, m, get_snoc _ _, c0, m0, m1⟩
  refine house_ok s1 fun os rs g2 ho0 ho1 hr0 hr1 hrw o2 _ => ?_
  have o2 : Only [] g g2 := (Only.snoc _ _ _).then o2 (by simp)
  unfold lz; simp
  refine source_ok (o2.lst h (by simp)) (by omega) (by omega) fun c m c0 m0 m1 => ?_
  have s3 : Src (g2 ++ [.lst [.int c, .int m]]) g2.length := ⟨c, m, get_snoc _ _, c0, m0, m1⟩
  refine entry_ok s3 ho0 ho1 hr0 hr1 hrw fun t d ns e g3 hnl he o3 _ => ?_
  have o3 : Only [] g g3 := o2.trans ((Only.snoc _ _ _).then o3 (by simp))
  unfold lz; simp
  refine source_ok (o3.lst h (by simp)) (by omega) (by omega) fun c m c0 m0 m1 => ?_
  have s4 : Src (g3 ++ [.lst [.int c, .int m]]) g3.length := ⟨c, m, get_snoc _ _, c0, m0, m1⟩
  generalize g3 ++ [.lst [.int c, .int m]] = g4 at s4
  generalize g3.length = r at s4
  unfold lz; simp
  unfold lz; simp
  refine take_ok s4 (by omega) (by omega) fun turns g5 t0 t1 o5 s5 => ?_
  have hnsne : ns ≠ [] := by rintro rfl; simp at hnl; omega
  obtain ⟨es, rfl, hene, _⟩ := he.V r g5
  have hes : ∀ g, K02.V r g 2 61 (.tup es) := fun g => by
    obtain ⟨es', e', _, h⟩ := he.V r g
    cases e'; exact h
  have hsn : ∀ g, K02.V r g 3 61 (.tup (ns.map .int)) := fun g => by
    refine V_tup (n := 2) (fun x hx => ?_) (by simp; omega)
    obtain ⟨z, _, rfl⟩ := List.mem_map.mp hx
    exact V_int _
  have rest : ∀ (value : D) (g6 : G), K02.V r g6 5 63 value → Src g6 r → lz q3_law [some (.ref s), some (HD os rs), some (.tup [.int t, .int d, .tup (ns.map .int), .tup es]), some (.ref r), some value, some (.int turns), none] g6 ⟨fun _ g => D.non = .bl true, fun v _ => v = .bl true, fun _ _ => False, fun _ _ => False⟩ := by
    intro value g6 hv s6
    have fin : ∀ (value : D) (g7 : G) (κ : Kt), K02.V r g7 5 900 value → Src g7 r → (∀ g, κ.rt (.bl true) g) → lz q2_law [some (.ref s), some (HD os rs), some (.tup [.int t, .int d, .tup (ns.map .int), .tup es]), some (.ref r), some value, some (.int turns), none] g7 κ := fun value g7 κ hv s7 hκ => law_end s7 hr1 hnsne (by omega) he hv _ _ _ hκ
    have fin0 := fun κ => fin value g6 κ (hv.mono (by omega) (by omega)) s6
    unfold lz; simp
    by_cases ht : 3 < turns
    · rw [if_pos ht]
      rcases hv.tupk with ⟨ds, rfl⟩ | ⟨u, u1, u2⟩
      · have tt : isTy .tuple (some .tuple) = true := rfl
        simp [tt]
        by_cases hl : (ds.length : Int) = 4
        · rw [if_pos hl]
          rcases ds with _ | ⟨x0, _ | ⟨x1, _ | ⟨x2, _ | ⟨x3, _ | ⟨x4, ds⟩⟩⟩⟩⟩
          · simp at hl
          · simp at hl
          · simp at hl
          · simp at hl
          · obtain ⟨j, hj, hdl, hds⟩ := hv.tup
            cases hj
            have h2 := hds x2 (by simp)
            have h3 := hds x3 (by simp)
            simp
            rcases h2.tupk with ⟨es2, rfl⟩ | ⟨u, u1, u2⟩
            · simp [tt]
              by_cases he2 : es2 = []
              · subst he2; simp
                (refine fin0 _ ?_; exact fun _ => rfl)
              · have : 0 < es2.length := List.length_pos_iff.mpr he2
                simp [this]
                rcases h3.tupk with ⟨es3, rfl⟩ | ⟨u, u1, u2⟩
                · simp [tt]
                  by_cases he3 : es3 = []
                  · subst he3; simp
                    (refine fin0 _ ?_; exact fun _ => rfl)
                  · have : 0 < es3.length := List.length_pos_iff.mpr he3
                    simp [this]
                    refine spoil_deed_ok s6 h3 he3 (by omega) (by omega) fun v7 g7 hv7 o7 s7 => ?_
                    refine put_V (by omega) (fun x hx => (hds x hx).only o7) (by simp) (by omega) hv7 fun ds' hv' => ?_
                    exact fin _ _ _ (hv'.mono (by omega) (by omega)) s7 fun _ => rfl
                · simp [u1, u2]
                  (refine fin0 _ ?_; exact fun _ => rfl)
            · simp [u1, u2]
              (refine fin0 _ ?_; exact fun _ => rfl)
          · exfalso; simp at hl; omega
        · rw [if_neg hl]
          (refine fin0 _ ?_; exact fun _ => rfl)
      · simp [u1, u2]
        (refine fin0 _ ?_; exact fun _ => rfl)
    · rw [if_neg ht]
      (refine fin0 _ ?_; exact fun _ => rfl)
  unfold lz; simp
  by_cases ht : 0 < turns
  · rw [if_pos ht]
    refine spoil_ok (m := 61) s5 (V_int _) (V_int _) ((hsn g5).mono (by omega) (Nat.le_refl _)) ((hes g5).mono (by omega) (Nat.le_refl _)) hene ho0 ho1 (by simp [hnl]) (by omega) (by omega) fun v6 g6 hv6 o6 s6 => ?_
    have := rest v6 g6 hv6 s6
    simp at this
    exact this
  · rw [if_neg ht]
    have hV : K02.V r g5 5 63 (.tup [.int t, .int d, .tup (ns.map .int), .tup es]) := by
      refine V_tup (n := 4) (fun x hx => ?_) (by simp)
      simp at hx
      rcases hx with rfl | rfl | rfl | rfl
      · exact V_int _
      · exact V_int _
      · exact (hsn g5).mono (by omega) (by omega)
      · exact (hes g5).mono (by omega) (by omega)
    have := rest _ g5 hV s5
    simp at this
    exact this
end
end K02
end

open PySem PySem.W PyProof.Rows
theorem PySem.Challenge.cw_hearsay_k02_shapes_holds : PySem.Challenge.rw_hearsay_k02_shapes.Holds := by
  exact rw_hearsay_k02_shapes_holds_of fun is => K02.law_ok rfl
