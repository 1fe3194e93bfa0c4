import PyProof.Rows.All
import Wide.All
import OpenK.AllK
import Wide.FinOn
import HandS.ForMost
import HandS.ForExc
import HandS.IsInst
import HandS.Conv
import HandS.TryMany
import HandS.Lambda
import KE.KDictKeyed
import KE.KeyNested
import KE.GoesMore
import HandS.Zip
import PyProof.EnumMake
import HandS.Style
import HandS.ExcInit
import HandS.List
import HandS.Dict
import HandS.Small
import HandS.TupLe
import HandS.TupAny
import HandS.Deep
import HandS.Text
import HandS.More
import HandS.RaiseMore
import PyProof.ReprRoads
import HandS.SortInts
import HandS.ExcField
import HandS.Codes
import PyProof.TupleOfSeq
import HandS.SetFor
import HandS.Strs
import HandS.HeadWalk
import HandS.EndTab
import HandS.EndBits
import HandS.HeadHook4
import HandS.Head2
import PySem.Challenge.RW_boxesclosed_k16_codes
section
/-! The mini language: values, syntax, what it does. Plain Lean, no model in sight. -/
set_option autoImplicit false
namespace Mi

/-- values: whole data as values; `ref`: an object of the abstract heap -/
inductive D where
  | non | bl (b : Bool) | int (i : Int) | str (s : List Nat)
  | tup (xs : List D) | lst (xs : List D) | dct (ks vs : List D) | set (xs : List D)
  | ref (n : Nat) | fn (k : Nat) | cls (k : Nat) | ty (s : Nat)
  deriving Inhabited, Repr

mutual
def D.beq : D → D → Bool
  | .non, .non => true
  | .bl a, .bl b => a == b
  | .int a, .int b => decide (a = b)
  | .str a, .str b => decide (a = b)
  | .tup a, .tup b => D.beqs a b
  | .lst a, .lst b => D.beqs a b
  | .dct a b, .dct c d => D.beqs a c && D.beqs b d
  | .set a, .set b => D.beqs a b
  | .ref a, .ref b => decide (a = b)
  | .fn a, .fn b => decide (a = b)
  | .cls a, .cls b => decide (a = b)
  | .ty a, .ty b => decide (a = b)
  | _, _ => false
def D.beqs : List D → List D → Bool
  | [], [] => true
  | a :: as, b :: bs => D.beq a b && D.beqs as bs
  | _, _ => false
end
mutual
theorem D.beq_self : ∀ a : D, D.beq a a = true
  | .non => rfl
  | .bl a => by simp [D.beq]
  | .int a => by simp [D.beq]
  | .str a => by simp [D.beq]
  | .tup a => by rw [D.beq]; exact D.beqs_self a
  | .lst a => by rw [D.beq]; exact D.beqs_self a
  | .dct a b => by rw [D.beq, D.beqs_self a, D.beqs_self b]; rfl
  | .set a => by rw [D.beq]; exact D.beqs_self a
  | .ref a => by simp [D.beq]
  | .fn a => by simp [D.beq]
  | .cls a => by simp [D.beq]
  | .ty a => by simp [D.beq]
theorem D.beqs_self : ∀ a : List D, D.beqs a a = true
  | [] => rfl
  | a :: as => by rw [D.beqs, D.beq_self a, D.beqs_self as]; rfl
end
mutual
theorem D.eq_of_beq : ∀ a b : D, D.beq a b = true → a = b
  | .non, b, h => by cases b <;> first | rfl | (simp [D.beq] at h)
  | .bl a, b, h => by cases b <;> first | (simp [D.beq] at h; simp [h]) | (simp [D.beq] at h)
  | .int a, b, h => by cases b <;> first | (simp [D.beq] at h; simp [h]) | (simp [D.beq] at h)
  | .str a, b, h => by cases b <;> first | (simp [D.beq] at h; simp [h]) | (simp [D.beq] at h)
  | .tup a, b, h => by
    cases b with
    | tup b => rw [D.beq] at h; rw [D.eq_of_beqs a b h]
    | _ => simp [D.beq] at h
  | .lst a, b, h => by
    cases b with
    | lst b => rw [D.beq] at h; rw [D.eq_of_beqs a b h]
    | _ => simp [D.beq] at h
  | .dct a b, c, h => by
    cases c with
    | dct c d => rw [D.beq, Bool.and_eq_true] at h; rw [D.eq_of_beqs a c h.1, D.eq_of_beqs b d h.2]
    | _ => simp [D.beq] at h
  | .set a, b, h => by
    cases b with
    | set b => rw [D.beq] at h; rw [D.eq_of_beqs a b h]
    | _ => simp [D.beq] at h
  | .ref a, b, h => by cases b <;> first | (simp [D.beq] at h; simp [h]) | (simp [D.beq] at h)
  | .fn a, b, h => by cases b <;> first | (simp [D.beq] at h; simp [h]) | (simp [D.beq] at h)
  | .cls a, b, h => by cases b <;> first | (simp [D.beq] at h; simp [h]) | (simp [D.beq] at h)
  | .ty a, b, h => by cases b <;> first | (simp [D.beq] at h; simp [h]) | (simp [D.beq] at h)
theorem D.eq_of_beqs : ∀ a b : List D, D.beqs a b = true → a = b
  | [], [], _ => rfl
  | [], _ :: _, h => by simp [D.beqs] at h
  | _ :: _, [], h => by simp [D.beqs] at h
  | a :: as, b :: bs, h => by
    rw [D.beqs, Bool.and_eq_true] at h
    rw [D.eq_of_beq a b h.1, D.eq_of_beqs as bs h.2]
end
instance : DecidableEq D := fun a b => if h : D.beq a b = true then isTrue (D.eq_of_beq a b h) else isFalse fun e => h (e ▸ D.beq_self a)

/-! plain data: None, bools, ints, texts, tuples, lists of such -/
mutual
def D.plain : D → Bool
  | .non | .bl _ | .int _ => true
  | .str s => s.all fun c => decide (c < 1114112)
  | .tup xs | .lst xs => D.plains xs
  | _ => false
def D.plains : List D → Bool
  | [] => true
  | x :: xs => D.plain x && D.plains xs
end
/-! data that repr may be asked of: without dicts; without lists, the empty dict among it -/
mutual
def D.shw0 : D → Bool
  | .non | .bl _ => true
  | .int i => decide (i.natAbs < 18446744073709551616)
  | .str s => s.all fun c => decide (c < 1114112)
  | .tup xs | .lst xs => D.shws0 xs
  | _ => false
def D.shws0 : List D → Bool
  | [] => true
  | x :: xs => D.shw0 x && D.shws0 xs
end
mutual
def D.shwT : D → Bool
  | .non | .bl _ => true
  | .int i => decide (i.natAbs < 18446744073709551616)
  | .str s => s.all fun c => decide (c < 1114112)
  | .tup xs => D.shwTs xs
  | .dct [] [] => true
  | _ => false
def D.shwTs : List D → Bool
  | [] => true
  | x :: xs => D.shwT x && D.shwTs xs
end
def D.shw (d : D) : Bool := d.shw0 || d.shwT
mutual
def D.depth : D → Nat
  | .tup xs | .lst xs => D.depths xs + 1
  | .dct ks vs => max (D.depths ks) (D.depths vs) + 1
  | _ => 0
def D.depths : List D → Nat
  | [] => 0
  | x :: xs => max (D.depth x) (D.depths xs)
end
/-! == of plain data -/
mutual
def D.eqv : D → D → Bool
  | .non, .non => true
  | .bl a, .bl b => a == b
  | .bl a, .int j => (if a then 1 else 0) == j
  | .int i, .bl b => i == (if b then 1 else 0)
  | .int i, .int j => i == j
  | .str x, .str y => x == y
  | .lst xs, .lst ys => D.eqvs xs ys
  | .tup xs, .tup ys => D.eqvs xs ys
  | _, _ => false
def D.eqvs : List D → List D → Bool
  | [], [] => true
  | x :: xs, y :: ys => D.eqv x y && D.eqvs xs ys
  | _, _ => false
end
/-- what may be compared by == -/
def D.cmpable (d : D) : Bool := d.plain && decide (d.depth ≤ 60)

def most : Nat := 16777216

inductive MObj where
  | lst (xs : List D) | dct (ks vs : List D) | ins (c : Nat) (fs : List (Nat × D))
  deriving Inhabited, Repr, DecidableEq
abbrev AH := List MObj

inductive MSlot where
  | un | v (d : D) | o (d : D)
  deriving Inhabited, Repr
abbrev MEnv := List MSlot

inductive R (α : Type) where
  | ok (a : α) (h : AH) | exc (c : Nat) (d : D) (h : AH) | fail
  deriving Repr, Inhabited
def R.bind {α β : Type} (r : R α) (f : α → AH → R β) : R β := match r with
  | .ok a h => f a h
  | .exc c d h => .exc c d h
  | .fail => .fail

inductive Bin where | add | sub | mul | fdiv | mod | shl | shr | pow deriving DecidableEq, Repr
inductive Cmp where | eq | ne | lt | le | gt | ge | is | isn | in | nin deriving DecidableEq, Repr
inductive UOp where | neg | not deriving DecidableEq, Repr
/-- built-in functions of values -/
inductive BI where
  | len | tuple | sum | max | min | any | all | int | str | repr | abs | ord
  deriving DecidableEq, Repr
/-- methods of built-in types, by name -/
inductive BM where
  | get | append | pop | insert | extend | index | count | join | split | startswith | endswith | setdefault
  deriving DecidableEq, Repr

/-- targets -/
inductive T where
  | v (i : Nat) | t (ts : List T)
  deriving Repr, Inhabited

mutual
inductive E where
  | c (d : D) | v (i : Nat) | g (k : Nat) (d : D)
  | un (o : UOp) (a : E) | bin (o : Bin) (a b : E) | cmp (o : Cmp) (a b : E) | chn (o p : Cmp) (a b c : E)
  | and (a b : E) | or (a b : E) | ife (t : B) (a b : E)
  | tup (es : Es) | fr (f : F) | al (f : F)
  | call (f : Nat) (es : Es) | new (c : Nat) (es : Es) | meth (e : E) (m : Nat) (es : Es)
  | bi (b : BI) (es : Es) | bit (b : BI) (i : I) | isi (e : E) (ts : List D) | bm (e : E) (m : BM) (es : Es)
  | fld (e : E) (k : Nat) | ix (a b : E) | sl (a : E) (lo hi : Option E)
  | vcall (i : Nat) (es : Es)
  | rf (f : Nat) (e : E)
inductive Es where
  | nil | cons (e : E) (es : Es)
/-- tests -/
inductive B where
  | e (e : E) | and (a b : B) | or (a b : B) | not (a : B)
/-- fresh containers -/
inductive F where
  | lst (es : Es) | dct (ks vs : Es) | lc (own : List Nat) (t : T) (i : I) (cond : Option B) (e : E) | of (i : I) | bin (o : Bin) (a b : E) | srt (e : E) | srtset (e : E)
/-- what is walked -/
inductive I where
  | e (x : E) | r1 (a : E) | r2 (a b : E) | r3 (a b : E) (c : Int) | enum (x : E) | zip (x y : E) | items (x : E) | vals (x : E) | rev (x : E)
end

mutual
inductive S where
  | ex (e : E) | set (i : Nat) (e : E) | own (i : Nat) (f : F) | frz (i : Nat)
  | unp (t : T) (e : E) | par (is : List Nat) (os : List Bool) (es : Es) | aug (i : Nat) (o : Bin) (e : E)
  | fld (e : E) (k : Nat) (v : E) | faug (e : E) (k : Nat) (o : Bin) (v : E)
  | six (a i v : E) | iaug (a i : E) (o : Bin) (v : E)
  | osix (x : Nat) (i v : E) | oaug (x : Nat) (i : E) (o : Bin) (v : E) | obm (x : Nat) (m : BM) (es : Es) | opop (y x : Nat)
  | iff (c : B) (a b : Ss) | for (t : T) (i : I) (b : Ss) | whl (c : B) (b : Ss)
  | ret (e : E) | retn | raise (c : Nat) (e : E) | brk | cnt | pass
inductive Ss where
  | nil | cons (s : S) (ss : Ss)
end

/-- a def: parameters, slots, body -/
structure Fn where
  np : Nat
  ns : Nat
  body : Ss
structure Cl where
  init : Option Nat
  meths : List (Nat × Nat)
structure G where
  fns : List Fn
  cls : List Cl
  /-- subclass: c is d or below it -/
  sub : Nat → Nat → Bool
  /-- the law's own "which error does it raise": the classes it catches, in order, with their words -/
  rfs : List (List (Nat × List Nat))
  /-- repr of plain data -/
  rep : D → List Nat
  /-- how many names of attributes there are -/
  na : Nat

inductive Fl where
  | nx (en : MEnv) | rt (d : D) | bk (en : MEnv) | ct (en : MEnv)
  deriving Repr, Inhabited

/-! ### values -/
def asL (x : D) (h : AH) : Option (List D) := match x with
  | .lst xs => some xs
  | .ref n => (match h[n]? with | some (.lst xs) => some xs | _ => none)
  | _ => none
def asS (x : D) (h : AH) : Option (List D) := match x with
  | .tup xs => some xs
  | _ => asL x h
def asD (x : D) (h : AH) : Option (List D × List D) := match x with
  | .dct ks vs => some (ks, vs)
  | .ref n => (match h[n]? with | some (.dct ks vs) => some (ks, vs) | _ => none)
  | _ => none
/-! dict keys: ints, texts, None, tuples of such -/
mutual
def D.key : D → Bool
  | .non | .int _ | .str _ => true
  | .tup xs => D.keys xs
  | _ => false
def D.keys : List D → Bool
  | [] => true
  | x :: xs => D.key x && D.keys xs
end
def D.flat : D → Bool
  | .int _ | .str _ => true
  | _ => false
def isTup : D → Bool
  | .tup _ => true
  | _ => false
def D.keyOk (d : D) : Bool := (d.flat || isTup d) && d.key && decide (d.depth ≤ 7)
def truD (x : D) (h : AH) : Option Bool := match x with
  | .non => some false
  | .bl b => some b
  | .int i => some (i != 0)
  | .str s => if s.length ≤ most then some (!s.isEmpty) else none
  | .tup xs => some (!xs.isEmpty)
  | .lst xs => some (!xs.isEmpty)
  | .dct ks _ => if ks.all D.flat then some (!ks.isEmpty) else none
  | .ref n => (match h[n]? with
    | some (.lst xs) => some (!xs.isEmpty)
    | some (.dct ks _) => if ks.all D.flat then some (!ks.isEmpty) else none
    | _ => none)
  | _ => none
/-- a key that may be asked for: ints and texts among such, tuples among such -/
def kin (ks : List D) (x : D) : Bool := x.keyOk && ks.all fun k => k.flat == x.flat
def dlook : List D → List D → D → Option D
  | k :: ks, v :: vs, x => if k = x then some v else dlook ks vs x
  | _, _, _ => none
def dput : List D → List D → D → D → List D × List D
  | k :: ks, v :: vs, x, y => if k = x then (k :: ks, y :: vs) else let r := dput ks vs x y; (k :: r.1, v :: r.2)
  | _, _, x, y => ([x], [y])
/-- the place of an index in a row of n things -/
def place (n : Nat) (i : Int) : Option Nat :=
  if 0 ≤ i then (if i < n then some i.toNat else none) else if 0 ≤ i + n then some (i + n).toNat else none
/-- a slice's bound -/
def bound (n : Nat) (i : Int) : Nat := if i < 0 then (i + n).toNat else min i.toNat n
def cut {α : Type} (xs : List α) (lo hi : Option Int) : List α :=
  let a := match lo with | some i => bound xs.length i | none => 0
  let b := match hi with | some i => bound xs.length i | none => xs.length
  (xs.take b).drop a

def unD (o : UOp) (x : D) (h : AH) : Option D := match o with
  | .neg => (match x with | .int i => some (.int (-i)) | _ => none)
  | .not => (truD x h).map fun b => .bl (!b)
def big : Int := 18446744073709551616
def binD (o : Bin) (x y : D) : Option D := match o, x, y with
  | .add, .int a, .int b => some (.int (a + b))
  | .sub, .int a, .int b => some (.int (a - b))
  | .mul, .int a, .int b => if (-big < a ∧ a < big) ∨ (-big < b ∧ b < big) then some (.int (a * b)) else none
  | .fdiv, .int a, .int b => if b ≠ 0 ∧ b.natAbs < 1073741824 then some (.int (a.fdiv b)) else none
  | .mod, .int a, .int b => if b ≠ 0 then some (.int (a.fmod b)) else none
  | .shl, .int a, .int b => if 0 ≤ b ∧ b ≤ 1000000 ∧ a.natAbs < big.natAbs then some (.int (a * 2 ^ b.toNat)) else none
  | .shr, .int a, .int b => if 0 ≤ b then some (.int (a / 2 ^ b.toNat)) else none
  | .pow, .int a, .int b => if 0 ≤ b ∧ b ≤ 1000000 ∧ a.natAbs < big.natAbs then some (.int (a ^ b.toNat)) else none
  | .add, .str a, .str b => if a.length + b.length ≤ most then some (.str (a ++ b)) else none
  | .add, .tup a, .tup b => if a.length + b.length ≤ most then some (.tup (a ++ b)) else none
  | _, _, _ => none
/-- in place: ints only -/
def binI (o : Bin) (x y : D) : Option D := match x, y with
  | .int a, .int b => binD o (.int a) (.int b)
  | _, _ => none
/-- fresh lists by an operator -/
def binF (o : Bin) (x y : D) (h : AH) : Option D := match o with
  | .add => (match asL x h, asL y h with
    | some a, some b => if a.length + b.length ≤ most then some (.lst (a ++ b)) else none
    | _, _ => none)
  | .mul => (match asL x h, y with
    | some a, .int k => if -4611686018427387904 ≤ k ∧ k < 4611686018427387904 ∧ a.length * k.toNat ≤ most then some (.lst (List.replicate k.toNat a).flatten) else none
    | _, _ => none)
  | _ => none
def rcI (o : Cmp) (a b : Int) : Option Bool := match o with
  | .lt => some (decide (a < b))
  | .le => some (decide (a ≤ b))
  | .gt => some (decide (b < a))
  | .ge => some (decide (b ≤ a))
  | _ => none
def rcS (o : Cmp) (a b : List Nat) : Option Bool := match o with
  | .lt => some (decide (a < b))
  | .le => some (!decide (b < a))
  | .gt => some (decide (b < a))
  | .ge => some (!decide (a < b))
  | _ => none
mutual
/-- order of ints, texts, and tuples of such -/
def D.rc (o : Cmp) : D → D → Option Bool
  | .int a, .int b => rcI o a b
  | .str a, .str b => rcS o a b
  | .tup a, .tup b => D.rcs o a b
  | _, _ => none
def D.rcs (o : Cmp) : List D → List D → Option Bool
  | [], [] => rcI o 0 0
  | [], _ :: _ => rcI o 0 1
  | _ :: _, [] => rcI o 1 0
  | x :: xs, y :: ys => if D.eqv x y then D.rcs o xs ys else (D.rcs o xs ys).bind fun _ => D.rc o x y
end
def D.lt (x y : D) : Option Bool := D.rc .lt x y
def D.ord (o : Cmp) (x y : D) : Option D := if x.cmpable ∧ y.cmpable then (D.rc o x y).map .bl else none
def cmpD (o : Cmp) (x y : D) (h : AH) : Option D := match o with
  | .eq => if x.cmpable ∧ y.cmpable then some (.bl (x.eqv y)) else none
  | .ne => if x.cmpable ∧ y.cmpable then some (.bl (!x.eqv y)) else none
  | .lt => D.ord .lt x y
  | .gt => D.ord .gt x y
  | .le => D.ord .le x y
  | .ge => D.ord .ge x y
  | .is => (match y with | .non => some (.bl (decide (x = .non))) | _ => none)
  | .isn => (match y with | .non => some (.bl (!decide (x = .non))) | _ => none)
  | .in => (match asD y h with
    | some (ks, _) => if kin ks x then some (.bl (decide (x ∈ ks))) else none
    | none => (match y, x with
      | .str s, .str [a] => some (.bl (decide (a ∈ s)))
      | _, _ => (match asS y h with
        | some xs => if x.cmpable ∧ (D.lst xs).cmpable then some (.bl (xs.any fun z => z.eqv x)) else none
        | none => none)))
  | .nin => (match asD y h with
    | some (ks, _) => if kin ks x then some (.bl (!decide (x ∈ ks))) else none
    | none => (match y, x with
      | .str s, .str [a] => some (.bl (!decide (a ∈ s)))
      | _, _ => (match asS y h with
        | some xs => if x.cmpable ∧ (D.lst xs).cmpable then some (.bl (!xs.any fun z => z.eqv x)) else none
        | none => none)))
def ixD (x y : D) (h : AH) : Option D := match asD x h with
  | some (ks, vs) => if kin ks y then dlook ks vs y else none
  | none => (match asS x h, y with
    | some xs, .int i => (place xs.length i).bind fun j => xs[j]?
    | none, .int i => (match x with
      | .str s => if s.length ≤ most then (place s.length i).bind fun j => s[j]?.map fun c => .str [c] else none
      | _ => none)
    | _, _ => none)
def optI : Option D → Option (Option Int)
  | none => some none
  | some (.int i) => some (some i)
  | some _ => none
def slD (x : D) (lo hi : Option D) (h : AH) : Option D := match optI lo, optI hi with
  | some a, some b => (match x with
    | .str s => if s.length ≤ most then some (.str (cut s a b)) else none
    | .tup xs => some (.tup (cut xs a b))
    | _ => (asL x h).map fun xs => .lst (cut xs a b))
  | _, _ => none
def allI : List D → Option (List Int)
  | [] => some []
  | .int i :: xs => (allI xs).map fun r => i :: r
  | _ :: _ => none
def allB : List D → Option (List Bool)
  | [] => some []
  | .bl i :: xs => (allB xs).map fun r => i :: r
  | _ :: _ => none
/-- ints in order -/
def insI (x : Int) : List Int → List Int
  | [] => [x]
  | y :: ys => if x ≤ y then x :: y :: ys else y :: insI x ys
def sortI : List Int → List Int
  | [] => []
  | x :: xs => insI x (sortI xs)
def dedupI : List Int → List Int
  | [] => []
  | x :: xs => if x ∈ dedupI xs then dedupI xs else x :: dedupI xs
/-- the types of isinstance: 0 int, 1 bool, 2 str, 3 tuple, 4 list, 5 dict -/
def isTy (x : D) (h : AH) (t : Nat) : Option Bool := match x with
  | .ref n => (match h[n]? with
    | some (.lst _) => some (decide (t = 4))
    | some (.dct _ _) => some (decide (t = 5))
    | some (.ins _ _) => some false
    | none => none)
  | .int _ => some (decide (t = 0))
  | .bl _ => some (decide (t = 0 ∨ t = 1))
  | .str _ => some (decide (t = 2))
  | .tup _ => some (decide (t = 3))
  | .lst _ => some (decide (t = 4))
  | .dct _ _ => some (decide (t = 5))
  | .non => some false
  | _ => none
def isIns (x : D) (h : AH) (sub : Nat → Nat → Bool) (c : Nat) : Option Bool := match x with
  | .ref n => (match h[n]? with
    | some (.ins k _) => some (sub k c)
    | some _ => some false
    | none => none)
  | .int _ | .bl _ | .str _ | .tup _ | .lst _ | .dct _ _ | .non => some false
  | _ => none
def isinD1 (x : D) (h : AH) (sub : Nat → Nat → Bool) (t : D) : Option Bool := match t with
  | .ty t => isTy x h t
  | .cls c => isIns x h sub c
  | _ => none
def isinD (x : D) (h : AH) (sub : Nat → Nat → Bool) : List D → Option Bool
  | [] => some false
  | t :: ts => (isinD1 x h sub t).bind fun b => if b then some true else isinD x h sub ts
def digits (n : Nat) : List Nat := (Nat.toDigits 10 n).map Char.toNat
def decI (i : Int) : List Nat := if i < 0 then 45 :: digits i.natAbs else digits i.natAbs
/-- the number that decimal digits tell -/
def numOf (s : List Nat) : Int := s.foldl (fun (a : Int) (c : Nat) => a * 10 + ((c : Int) - 48)) 0
def isDig (c : Nat) : Bool := decide (48 ≤ c) && decide (c ≤ 57)
def lenD (x : D) (h : AH) : Option Nat := match asS x h with
  | some xs => some xs.length
  | none => (match asD x h with
    | some (ks, _) => if ks.all D.flat then some ks.length else none
    | none => (match x with
      | .str s => if s.length ≤ most then some s.length else none
      | _ => none))
def biD (g : G) (b : BI) (xs : List D) (h : AH) : Option D := match b, xs with
  | .len, [x] => (lenD x h).map fun n => .int n
  | .tuple, [x] => (asS x h).map .tup
  | .sum, [x] => (asL x h).bind fun xs => (allI xs).map fun ns => .int ns.sum
  | .max, [x] => (asL x h).bind fun xs => (allI xs).bind fun ns => (match ns with | y :: ys => some (.int (ys.foldl max y)) | [] => none)
  | .min, [x] => (asL x h).bind fun xs => (allI xs).bind fun ns => (match ns with | y :: ys => some (.int (ys.foldl min y)) | [] => none)
  | .max, [.int a, .int b] => some (.int (if b > a then b else a))
  | .min, [.int a, .int b] => some (.int (if b < a then b else a))
  | .any, [x] => (asL x h).bind fun xs => (allB xs).map fun bs => .bl (bs.any id)
  | .all, [x] => (asL x h).bind fun xs => (allB xs).map fun bs => .bl (bs.all id)
  | .int, [.int i] => some (.int i)
  | .int, [.bl b] => some (.int (if b then 1 else 0))
  | .str, [.int i] => if i.natAbs < 10 ^ 500 then some (.str (decI i)) else none
  | .repr, [x] => if x.shw ∧ x.depth ≤ 50 ∧ (g.rep x).length ≤ most then some (.str (g.rep x)) else none
  | .abs, [.int i] => some (.int (if i < 0 then -i else i))
  | .ord, [.str [c]] => some (.int c)
  | _, _ => none
def joinS (sep : List Nat) : List (List Nat) → List Nat
  | [] => []
  | [x] => x
  | x :: y :: r => x ++ sep ++ joinS sep (y :: r)
def allS : List D → Option (List (List Nat))
  | [] => some []
  | .str i :: xs => (allS xs).map fun r => i :: r
  | _ :: _ => none
/-- parts between the places of one sign -/
def splitS (c : Nat) : List Nat → List (List Nat)
  | [] => [[]]
  | x :: xs => if x = c then [] :: splitS c xs else match splitS c xs with
    | p :: ps => (x :: p) :: ps
    | [] => [[x]]
def idxD : List D → D → Nat → Option Nat
  | [], _, _ => none
  | x :: xs, y, n => if x.eqv y then some n else idxD xs y (n + 1)
def insAt (xs : List D) (i : Int) (d : D) : List D := let j := bound xs.length i; xs.take j ++ d :: xs.drop j
/-- methods that change nothing -/
def bmV (m : BM) (x : D) (xs : List D) (h : AH) : Option D := match m, xs with
  | .get, [k] => (asD x h).bind fun p => if kin p.1 k then some ((dlook p.1 p.2 k).getD .non) else none
  | .get, [k, d] => (asD x h).bind fun p => if kin p.1 k then some ((dlook p.1 p.2 k).getD d) else none
  | .index, [y] => (asS x h).bind fun xs => if y.cmpable ∧ (D.lst xs).cmpable then (idxD xs y 0).map fun n => .int n else none
  | .join, [y] => (match x with
    | .str sep => (asS y h).bind fun ys => (allS ys).bind fun zs => if (joinS sep zs).length ≤ most then some (.str (joinS sep zs)) else none
    | _ => none)
  | .startswith, [.str p] => (match x with | .str s => some (.bl (p.isPrefixOf s)) | _ => none)
  | _, _ => none
/-- fresh lists by methods -/
def bmF (m : BM) (x : D) (xs : List D) : Option D := match m, x, xs with
  | .split, .str s, [.str [c]] => if s.length + 2 ≤ most then some (.lst ((splitS c s).map .str)) else none
  | _, _, _ => none
/-- methods that change the object: its new content, and the value -/
def bmO (m : BM) (o : MObj) (xs : List D) : Option (D × MObj) := match m, o, xs with
  | .append, .lst l, [d] => if l.length < most then some (.non, .lst (l ++ [d])) else none
  | .insert, .lst l, [.int i, d] => if l.length < most then some (.non, .lst (insAt l i d)) else none
  | .pop, .lst l, [] => (match l.getLast? with | some d => some (d, .lst l.dropLast) | none => none)
  | .pop, .lst l, [.int i] => (match place l.length i with
    | some j => (l[j]?).map fun d => (d, .lst (l.eraseIdx j))
    | none => none)
  | .setdefault, .dct ks vs, [k, d] => if kin ks k ∧ ks.length < most then (match dlook ks vs k with
    | some v => some (v, .dct ks vs)
    | none => some (d, .dct (ks ++ [k]) (vs ++ [d]))) else none
  | _, _, _ => none
def objD : D → Option MObj
  | .lst xs => some (.lst xs)
  | .dct ks vs => some (.dct ks vs)
  | _ => none
def MObj.d : MObj → D
  | .lst xs => .lst xs
  | .dct ks vs => .dct ks vs
  | .ins _ _ => .non
def putO (o : MObj) (i v : D) : Option MObj := match o with
  | .lst l => (match i with
    | .int i => (place l.length i).map fun j => .lst (l.set j v)
    | _ => none)
  | .dct ks vs => if kin ks i ∧ ks.length < most then let r := dput ks vs i v; some (.dct r.1 r.2) else none
  | _ => none
def flook : List (Nat × D) → Nat → Option D
  | (k, d) :: r, x => if k = x then some d else flook r x
  | [], _ => none
def fput : List (Nat × D) → Nat → D → List (Nat × D)
  | (k, d) :: r, x, y => if k = x then (k, y) :: r else (k, d) :: fput r x y
  | [], x, y => [(x, y)]
def mlook : List (Nat × Nat) → Nat → Option Nat
  | (k, d) :: r, x => if k = x then some d else mlook r x
  | [], _ => none
mutual
def bindT : T → D → MEnv → Option MEnv
  | .v i, d, en => some (en.set i (.v d))
  | .t ts, d, en => match d with
    | .tup xs => bindTs ts xs en
    | _ => none
def bindTs : List T → List D → MEnv → Option MEnv
  | [], [], en => some en
  | t :: ts, d :: ds, en => match bindT t d en with
    | some en' => bindTs ts ds en'
    | none => none
  | _, _, _ => none
end
def ofO {α : Type} (o : Option α) (h : AH) : R α := match o with
  | some a => .ok a h
  | none => .fail
/-- a loop over items; g: the walked object of the heap stays as it is -/
def forL (g : AH → Bool) (step : D → MEnv → AH → R Fl) : List D → MEnv → AH → R Fl
  | [], en, h => .ok (.nx en) h
  | x :: xs, en, h => match step x en h with
    | .ok (.nx en') h' => if g h' then forL g step xs en' h' else .fail
    | .ok (.ct en') h' => if g h' then forL g step xs en' h' else .fail
    | .ok (.bk en') h' => .ok (.nx en') h'
    | .ok (.rt d) h' => .ok (.rt d) h'
    | .exc c d h' => .exc c d h'
    | .fail => .fail
def whl (c : MEnv → AH → R Bool) (b : MEnv → AH → R Fl) : Nat → MEnv → AH → R Fl
  | 0, _, _ => .fail
  | n + 1, en, h => match c en h with
    | .ok true h' => (match b en h' with
      | .ok (.nx en') h2 => whl c b n en' h2
      | .ok (.ct en') h2 => whl c b n en' h2
      | .ok (.bk en') h2 => .ok (.nx en') h2
      | .ok (.rt d) h2 => .ok (.rt d) h2
      | .exc c d h' => .exc c d h'
      | .fail => .fail)
    | .ok false h' => .ok (.nx en) h'
    | .exc c d h' => .exc c d h'
    | .fail => .fail
def compL (g : AH → Bool) (step : D → AH → R (Option D)) : List D → AH → R (List D)
  | [], h => .ok [] h
  | x :: xs, h => match step x h with
    | .ok o h' => if g h' then (match compL g step xs h' with
      | .ok r h2 => .ok (match o with | some d => d :: r | none => r) h2
      | _ => .fail) else .fail
    | _ => .fail
def isOwn (e : E) (en : MEnv) : Bool := match e with
  | .v i => (match en[i]? with | some (.o _) => true | _ => false)
  | _ => false
def ownI (i : I) (en : MEnv) : Bool := match i with
  | .e x | .enum x | .items x | .vals x | .rev x => isOwn x en
  | .zip x y => isOwn x en || isOwn y en
  | _ => false
def wipe (en : MEnv) : List Nat → MEnv
  | [] => en
  | i :: r => wipe (en.set i .un) r
def same (n : Option Nat) (h h' : AH) : Bool := match n with
  | none => true
  | some n => decide (h'[n]? = h[n]?)
def rangeL (a : Int) (n : Nat) (c : Int) : List D := (List.range n).map fun (i : Nat) => .int (a + (i : Int) * c)
def wide (i : Int) : Bool := decide (-4611686018427387904 ≤ i) && decide (i < 4611686018427387904)
def stepN (a b c : Int) : Nat := if 0 < c then ((b - a + c - 1) / c).toNat else ((a - b - c - 1) / (-c)).toNat
def handler : List (Nat × List Nat) → (Nat → Bool) → Option (List Nat)
  | [], _ => none
  | (c, w) :: r, p => if p c then some w else handler r p

def noMeth (g : G) (c k : Nat) : Bool := match g.cls[c]? with
  | some cl => decide (k < g.na) && (mlook cl.meths k).isNone
  | none => false
abbrev CallT := Nat → List D → AH → R D
section
variable (g : G) (call : CallT)
def newD (c : Nat) (xs : List D) (h : AH) : R D := match g.cls[c]? with
  | some cl => (match cl.init with
    | some f => (match call f (.ref h.length :: xs) (h ++ [.ins c []]) with
      | .ok .non h' => .ok (.ref h.length) h'
      | .ok _ _ => .fail
      | .exc c d h' => .exc c d h'
      | .fail => .fail)
    | none => .fail)
  | none => .fail
def methF (x : D) (m : Nat) (h : AH) : Option (Nat × Nat) := match x with
  | .ref n => (match h[n]? with
    | some (.ins c fs) => (match g.cls[c]? with
      | some cl => (match mlook cl.meths m, flook fs m with
        | some f, none => some (n, f)
        | _, _ => none)
      | none => none)
    | _ => none)
  | _ => none
/-- the type of a receiver: 2 str, 3 tuple, 4 list, 5 dict -/
def tagD (x : D) (h : AH) : Nat := match x with
  | .str _ => 2
  | .tup _ => 3
  | .lst _ => 4
  | .dct _ _ => 5
  | .ref n => (match h[n]? with
    | some (.lst _) => 4
    | some (.dct _ _) => 5
    | _ => 0)
  | _ => 0
/-- the methods of a type -/
def bmTag : BM → Nat → Bool
  | .get, 5 | .setdefault, 5 => true
  | .append, 4 | .insert, 4 | .pop, 4 | .extend, 4 | .index, 4 | .count, 4 => true
  | .join, 2 | .split, 2 | .startswith, 2 | .endswith, 2 => true
  | _, _ => false
def bmD (x : D) (m : BM) (xs : List D) (h : AH) : R D := match bmV m x xs h with
  | some d => .ok d h
  | none => (match x with
    | .ref n => (match h[n]? with
      | some o => (match bmO m o xs with
        | some (d, o') => .ok d (h.set n o')
        | none => .fail)
      | none => .fail)
    | _ => .fail)
def itD (x : D) (h : AH) : R (List D × Option Nat) := match x with
  | .tup xs => .ok (xs, none) h
  | .lst xs => .ok (xs, none) h
  | .str s => if s.length ≤ most then .ok (s.map fun c => .str [c], none) h else .fail
  | .ref n => (match h[n]? with
    | some (.lst xs) => .ok (xs, some n) h
    | _ => .fail)
  | _ => .fail
def refOf : D → Option Nat
  | .ref n => some n
  | _ => none
mutual
def evE : E → MEnv → AH → R D
  | .c d, _, h => .ok d h
  | .v i, en, h => (match en[i]? with
    | some (.v d) => .ok d h
    | some (.o d) => .ok d h
    | _ => .fail)
  | .g _ d, _, h => .ok d h
  | .un o a, en, h => (evE a en h).bind fun x h => ofO (unD o x h) h
  | .bin o a b, en, h => (evE a en h).bind fun x h => (evE b en h).bind fun y h => ofO (binD o x y) h
  | .cmp o a b, en, h => (evE a en h).bind fun x h => (evE b en h).bind fun y h => ofO (cmpD o x y h) h
  | .chn o p a b c, en, h => (evE a en h).bind fun x h => (evE b en h).bind fun y h => match cmpD o x y h with
    | some (.bl true) => (evE c en h).bind fun z h => ofO (cmpD p y z h) h
    | some (.bl false) => .ok (.bl false) h
    | _ => .fail
  | .and a b, en, h => (evE a en h).bind fun x h => match x with
    | .bl true => if isOwn b en then .fail else evE b en h
    | .bl false => .ok (.bl false) h
    | _ => .fail
  | .or a b, en, h => (evE a en h).bind fun x h => match x with
    | .bl true => .ok (.bl true) h
    | .bl false => if isOwn b en then .fail else evE b en h
    | _ => .fail
  | .ife t a b, en, h => (evB t en h).bind fun c h => match c with
    | true => if isOwn a en then .fail else evE a en h
    | false => if isOwn b en then .fail else evE b en h
  | .tup es, en, h => (evEs es en h).bind fun xs h => .ok (.tup xs) h
  | .fr f, en, h => evF f en h
  | .al f, en, h => (evF f en h).bind fun d h => match objD d with
    | some o => .ok (.ref h.length) (h ++ [o])
    | none => .fail
  | .call f es, en, h => (evEs es en h).bind fun xs h => call f xs h
  | .new c es, en, h => (evEs es en h).bind fun xs h => newD g call c xs h
  | .meth e m es, en, h => (evE e en h).bind fun x h => match methF g x m h with
    | some p => (evEs es en h).bind fun xs h => call p.2 (.ref p.1 :: xs) h
    | none => .fail
  | .bi b es, en, h => (evPs es en h).bind fun xs h => ofO (biD g b xs h) h
  | .bit b i, en, h => (evI i en h).bind fun xs h => ofO (biD g b [.lst xs.1] h) h
  | .isi e ts, en, h => (evE e en h).bind fun x h => ofO ((isinD x h g.sub ts).map .bl) h
  | .bm e m es, en, h => (evE e en h).bind fun x h => if bmTag m (tagD x h) then (evEs es en h).bind fun xs h2 => (if tagD x h = tagD x h2 then bmD x m xs h2 else .fail) else .fail
  | .fld e k, en, h => (evE e en h).bind fun x h => match x with
    | .ref n => (match h[n]? with
      | some (.ins _ fs) => ofO (flook fs k) h
      | _ => .fail)
    | _ => .fail
  | .ix a b, en, h => (evE a en h).bind fun x h => (evE b en h).bind fun y h => ofO (ixD x y h) h
  | .sl a lo hi, en, h => (evE a en h).bind fun x h => (evO lo en h).bind fun l h => if (optI l).isSome then (evO hi en h).bind fun r h => (if (optI r).isSome then ofO (slD x l r h) h else .fail) else .fail
  | .vcall i es, en, h => (match en[i]? with
    | some (.v (.fn k)) => (evEs es en h).bind fun xs h => call k xs h
    | _ => .fail)
  | .rf f e, en, h => (match g.rfs[f]? with
    | some hs => (match evE e en h with
      | .ok _ h => .ok (.tup [.str [], .non]) h
      | .exc c d h => (match handler hs (g.sub c) with
        | some w => .ok (.tup [.str w, d]) h
        | none => .fail)
      | .fail => .fail)
    | none => .fail)
def evO : Option E → MEnv → AH → R (Option D)
  | none, _, h => .ok none h
  | some e, en, h => (evE e en h).bind fun x h => .ok (some x) h
/-- values that are kept: nothing owned -/
def evEs : Es → MEnv → AH → R (List D)
  | .nil, _, h => .ok [] h
  | .cons e es, en, h => if isOwn e en then .fail else (evE e en h).bind fun x h => (evEs es en h).bind fun xs h => .ok (x :: xs) h
/-- values that are looked at -/
def evPs : Es → MEnv → AH → R (List D)
  | .nil, _, h => .ok [] h
  | .cons e es, en, h => (evE e en h).bind fun x h => (evPs es en h).bind fun xs h => .ok (x :: xs) h
def evB : B → MEnv → AH → R Bool
  | .e e, en, h => (evE e en h).bind fun x h => ofO (truD x h) h
  | .and a b, en, h => (evB a en h).bind fun x h => match x with
    | true => evB b en h
    | false => .ok false h
  | .or a b, en, h => (evB a en h).bind fun x h => match x with
    | true => .ok true h
    | false => evB b en h
  | .not a, en, h => (evB a en h).bind fun x h => .ok (!x) h
def evOB : Option B → MEnv → AH → R Bool
  | none, _, h => .ok true h
  | some b, en, h => evB b en h
def evF : F → MEnv → AH → R D
  | .lst es, en, h => (evEs es en h).bind fun xs h => .ok (.lst xs) h
  | .dct ks vs, en, h => (evEs ks en h).bind fun xs h => (evEs vs en h).bind fun ys h =>
    if xs.all D.flat ∧ xs.length = ys.length then
      let r := (xs.zip ys).foldl (fun (p : List D × List D) q => dput p.1 p.2 q.1 q.2) ([], [])
      .ok (.dct r.1 r.2) h
    else .fail
  | .lc own t i cond e, en, h => (evI i en h).bind fun xs h =>
    (compL (same xs.2 h) (fun x h => match bindT t x (wipe en own) with
      | some en' => (evOB cond en' h).bind fun c h => match c with
        | true => if isOwn e en' then .fail else (evE e en' h).bind fun d h => .ok (some d) h
        | false => .ok none h
      | none => .fail) xs.1 h).bind fun r h => .ok (.lst r) h
  | .of (.e x), en, h => (evE x en h).bind fun x h => (match asS x h with
    | some xs => .ok (.lst xs) h
    | none => (match asD x h with
      | some (ks, _) => if ks.all D.flat then .ok (.lst ks) h else .fail
      | none => .fail))
  | .of (.r1 a), en, h => (evI (.r1 a) en h).bind fun xs h => .ok (.lst xs.1) h
  | .of _, _, _ => .fail
  | .bin o a b, en, h => (evE a en h).bind fun x h => (evE b en h).bind fun y h => ofO (binF o x y h) h
  | .srt e, en, h => (evE e en h).bind fun x h => ofO ((asS x h).bind fun xs => (allI xs).map fun ns => .lst ((sortI ns).map .int)) h
  | .srtset e, en, h => (evE e en h).bind fun x h => ofO ((asL x h).bind fun xs => (allI xs).bind fun ns => if ns.length < 60 then some (.lst ((sortI (dedupI ns)).map .int)) else none) h
def evI : I → MEnv → AH → R (List D × Option Nat)
  | .e x, en, h => (evE x en h).bind fun x h => itD x h
  | .r1 a, en, h => (evE a en h).bind fun x h => match x with
    | .int n => if wide n ∧ n.toNat ≤ most then .ok (rangeL 0 n.toNat 1, none) h else .fail
    | _ => .fail
  | .r2 a b, en, h => (evE a en h).bind fun x h => (evE b en h).bind fun y h => match x, y with
    | .int m, .int n => if wide m ∧ wide n ∧ (n - m).toNat ≤ most then .ok (rangeL m (n - m).toNat 1, none) h else .fail
    | _, _ => .fail
  | .r3 a b c, en, h => (evE a en h).bind fun x h => (evE b en h).bind fun y h => match x, y with
    | .int m, .int n => if wide m ∧ wide n ∧ stepN m n c ≤ most then .ok (rangeL m (stepN m n c) c, none) h else .fail
    | _, _ => .fail
  | .enum x, en, h => (evE x en h).bind fun x h => match asS x h with
    | some xs => .ok ((xs.zipIdx).map fun p => .tup [.int p.2, p.1], refOf x) h
    | none => .fail
  | .zip x y, en, h => (evE x en h).bind fun x h => (evE y en h).bind fun y h => match asS x h, asS y h, refOf x, refOf y, decide (isTup x = isTup y) with
    | some xs, some ys, none, none, true => .ok ((xs.zip ys).map fun p => .tup [p.1, p.2], none) h
    | _, _, _, _, _ => .fail
  | .items x, en, h => (evE x en h).bind fun x h => match asD x h with
    | some (ks, vs) => .ok ((ks.zip vs).map fun p => .tup [p.1, p.2], refOf x) h
    | none => .fail
  | .vals x, en, h => (evE x en h).bind fun x h => match asD x h with
    | some (_, vs) => .ok (vs, refOf x) h
    | none => .fail
  | .rev x, en, h => (evE x en h).bind fun x h => match asS x h with
    | some xs => .ok (xs.reverse, refOf x) h
    | none => .fail
end
def evV (e : E) (en : MEnv) (h : AH) : R D := if isOwn e en then .fail else evE g call e en h
def fuel : Nat := 1073741824
/-- several names: values, or owned fresh ones -/
def bindP : List Nat → List Bool → List D → MEnv → Option MEnv
  | [], [], [], en => some en
  | i :: is, o :: os, d :: ds, en => bindP is os ds (en.set i (if o then .o d else .v d))
  | _, _, _, _ => none
def parOk : List Bool → Es → Bool
  | [], .nil => true
  | true :: os, .cons (.fr _) es => parOk os es
  | false :: os, .cons _ es => parOk os es
  | _, _ => false
mutual
def evS : S → MEnv → AH → R Fl
  | .ex e, en, h => (evE g call e en h).bind fun _ h => .ok (.nx en) h
  | .set i e, en, h => (evV g call e en h).bind fun d h => .ok (.nx (en.set i (.v d))) h
  | .own i f, en, h => (evF g call f en h).bind fun d h => .ok (.nx (en.set i (.o d))) h
  | .frz i, en, h => (match en[i]? with
    | some (.o d) => .ok (.nx (en.set i (.v d))) h
    | _ => .fail)
  | .unp t e, en, h => (evV g call e en h).bind fun d h => match bindT t d en with
    | some en' => .ok (.nx en') h
    | none => .fail
  | .par is os es, en, h => if parOk os es then (evEs g call es en h).bind fun ds h => (match bindP is os ds en with
    | some en' => .ok (.nx en') h
    | none => .fail) else .fail
  | .aug i o e, en, h => (match en[i]? with
    | some (.v x) => (evE g call e en h).bind fun y h => (match binI o x y with
      | some d => .ok (.nx (en.set i (.v d))) h
      | none => .fail)
    | _ => .fail)
  | .fld e k v, en, h => (evV g call v en h).bind fun d h => (evE g call e en h).bind fun x h => match x with
    | .ref n => (match h[n]? with
      | some (.ins c fs) => if fs.length < 900 ∧ noMeth g c k then .ok (.nx en) (h.set n (.ins c (fput fs k d))) else .fail
      | _ => .fail)
    | _ => .fail
  | .faug e k o v, en, h => (evE g call e en h).bind fun x h => match x with
    | .ref n => (match h[n]? with
      | some (.ins c fs) => (match flook fs k with
        | some y => (evE g call v en h).bind fun z h => (match binI o y z, h[n]? with
          | some d, some (.ins c' fs) => if c' = c ∧ fs.length < 900 ∧ noMeth g c k then .ok (.nx en) (h.set n (.ins c (fput fs k d))) else .fail
          | _, _ => .fail)
        | none => .fail)
      | _ => .fail)
    | _ => .fail
  | .six a i v, en, h => (evV g call v en h).bind fun d h => (evE g call a en h).bind fun x h => (evV g call i en h).bind fun y h => match x with
    | .ref n => (match (h[n]?).bind fun o => putO o y d with
      | some o => .ok (.nx en) (h.set n o)
      | none => .fail)
    | _ => .fail
  | .iaug a i o v, en, h => (evE g call a en h).bind fun x h => (evV g call i en h).bind fun y h => match ixD x y h with
    | some z => (evE g call v en h).bind fun w h => (match binI o z w, x with
      | some d, .ref n => (match (h[n]?).bind fun o => putO o y d with
        | some o => .ok (.nx en) (h.set n o)
        | none => .fail)
      | _, _ => .fail)
    | none => .fail
  | .osix s i v, en, h => (evV g call v en h).bind fun d h => (match en[s]? with
    | some (.o x) => (evV g call i en h).bind fun y h => (match (objD x).bind fun o => putO o y d with
      | some o => .ok (.nx (en.set s (.o o.d))) h
      | none => .fail)
    | _ => .fail)
  | .oaug s i o v, en, h => (match en[s]? with
    | some (.o x) => (evV g call i en h).bind fun y h => (match ixD x y h with
      | some z => (evE g call v en h).bind fun w h => (match binI o z w with
        | some d => (match (objD x).bind fun o => putO o y d with
          | some o => .ok (.nx (en.set s (.o o.d))) h
          | none => .fail)
        | none => .fail)
      | none => .fail)
    | _ => .fail)
  | .obm s m es, en, h => (match en[s]? with
    | some (.o x) => if bmTag m (tagD x h) then (evEs g call es en h).bind fun xs h => (match (objD x).bind fun o => bmO m o xs with
      | some (_, o) => .ok (.nx (en.set s (.o o.d))) h
      | none => .fail) else .fail
    | _ => .fail)
  | .opop y s, en, h => (match en[s]? with
    | some (.o x) => (match (objD x).bind fun o => bmO .pop o [] with
      | some (d, o) => .ok (.nx ((en.set s (.o o.d)).set y (.v d))) h
      | none => .fail)
    | _ => .fail)
  | .iff c a b, en, h => (evB g call c en h).bind fun t h => match t with
    | true => evSs a en h
    | false => evSs b en h
  | .for t i b, en, h => if ownI i en then .fail else (evI g call i en h).bind fun xs h =>
    forL (same xs.2 h) (fun x en h => match bindT t x en with
      | some en' => evSs b en' h
      | none => .fail) xs.1 en h
  | .whl c b, en, h => whl (fun en h => evB g call c en h) (fun en h => evSs b en h) fuel en h
  | .ret e, en, h => (evE g call e en h).bind fun d h => .ok (.rt d) h
  | .retn, _, h => .ok (.rt .non) h
  | .raise c e, en, h => (evV g call e en h).bind fun d h => .exc c d h
  | .brk, en, h => .ok (.bk en) h
  | .cnt, en, h => .ok (.ct en) h
  | .pass, en, h => .ok (.nx en) h
def evSs : Ss → MEnv → AH → R Fl
  | .nil, en, h => .ok (.nx en) h
  | .cons s ss, en, h => match evS s en h with
    | .ok (.nx en') h' => evSs ss en' h'
    | .ok f h' => .ok f h'
    | .exc c d h' => .exc c d h'
    | .fail => .fail
end
end
def startEnv (n : Nat) (xs : List D) : MEnv := xs.map .v ++ List.replicate (n - xs.length) .un
def endFl (r : R Fl) : R D := match r with
  | .ok (.nx _) h => .ok .non h
  | .ok (.rt d) h => .ok d h
  | .ok _ _ => .fail
  | .exc c d h => .exc c d h
  | .fail => .fail
def callD (g : G) : Nat → Nat → List D → AH → R D
  | 0, _, _, _ => .fail
  | n + 1, f, xs, h => match g.fns[f]? with
    | some fn => if xs.length = fn.np then endFl (evSs g (callD g n) fn.body (startEnv fn.ns xs) h) else .fail
    | none => .fail
end Mi
end
section
set_option Elab.async false
set_option linter.all false
set_option maxRecDepth 100000
set_option maxHeartbeats 2000000
/-! How the mini language's values and heap lie in HandS's abstract heap. -/
namespace Mi
open PySem L2

def strV (s : List Nat) : Str := ⟨s.toArray⟩
/-- what the names of a program stand for -/
structure Ln where
  g : G
  fad : Nat → Addr
  cad : Nat → Addr
  an : Nat → Str
  /-- the tables of code objects that are written, with their names -/
  T : List (Addr × Str)
  /-- the defs that ask for a repr, by themselves or by others -/
  rp : Nat → Bool
def tyName : Nat → String
  | 0 => "int" | 1 => "bool" | 2 => "str" | 3 => "tuple" | 4 => "list" | _ => "dict"

/-- where a program is read -/
structure Sy where
  P : Program
  w : World
  K : PySem.W.Frag
  L : Ln
abbrev sy (X : Cx) (L : Ln) : Sy := ⟨X.prog, X.w, X.K, L⟩
/-! ### dict keys -/
mutual
def nk : D → NestedKey
  | .int i => .num i
  | .str s => .text (strV s)
  | .tup xs => .tup (nks xs)
  | _ => .none
def nks : List D → List NestedKey
  | [] => []
  | x :: xs => nk x :: nks xs
end
/-- a dict whose keys are tuples, as it stands: its keys, where they stand, its values -/
def tdO (P : Program) (w : World) (a : Addr) (xs : List (NestedKey × Addr × Value)) : HO :=
  .ext fun h => ∃ o es ep, h.get? a = some o ∧ o.ExactDict ∧ o.data = .dict es ep ∧ es.toList = xs.map (entryOfKey (nestedKind P w))
/-- keys that are ints, texts -/
def keyF : D → Option Key
  | .int i => some (.inl i)
  | .str s => some (.inr (strV s))
  | _ => none

structure Wd where
  H : Hp
  Fz : Addr → Prop
  ρ : Nat → Addr
  z : Nat
  T : List (Addr × Str)
/-- there, and no table of code objects -/
def Nt (o : Option HO) : Prop := ∃ u, o = some u ∧ ∀ ps, u ≠ .tbl ps
theorem Nt.ne {o : Option HO} (h : Nt o) : o ≠ none := by obtain ⟨u, e, _⟩ := h; rw [e]; simp
/-- .., no code object of such a table -/
def Pl (o : Option HO) : Prop := ∃ u, o = some u ∧ (∀ ps, u ≠ .tbl ps) ∧ ∀ c q, u ≠ LamX.CodeO c q
theorem Pl.nt {o : Option HO} (h : Pl o) : Nt o := by obtain ⟨u, e, h1, _⟩ := h; exact ⟨u, e, h1⟩
theorem nt_upd {H : Hp} {a : Addr} {o : HO} (h : ∀ ps, o ≠ .tbl ps) : Nt (upd H a o a) := ⟨o, upd_same, h⟩

section
variable (P : Program) (w : World) (K : PySem.W.Frag) (L : Ln)
def KL (a : Addr) (xs : List V) : Prop := ∃ (o : PySem.Obj) (its : Array Value) (n : Nat), K.lookup a = some o ∧ o.cls = .type "list" ∧ o.dict = none ∧ o.data = .seq its n ∧ its.size ≤ sizeLine ∧ Vals xs its.toList
def KT (a : Addr) (xs : List V) : Prop := ∃ (o : PySem.Obj) (its : Array Value) (n : Nat), K.lookup a = some o ∧ o.cls = .type "tuple" ∧ o.data = .seq its n ∧ its.size ≤ sizeLine ∧ Vals xs its.toList
/-- the dict at a: its keys (as values too), its values -/
def DctAt (H : Hp) (a : Addr) (ks : List D) (kk vv : List V) : Prop :=
  (∃ kvs : List (Key × V), Rd H a (.dK kvs) ∧ kk = kvs.map (fun p => kV p.1) ∧ vv = kvs.map (·.2) ∧ ks.map keyF = kvs.map (fun p => some p.1)) ∨
  (∃ xs : List (NestedKey × Addr × Value), H a = some (tdO P w a xs) ∧ (a == sysModules) = false ∧ xs.length ≤ sizeLine ∧ ks ≠ [] ∧ kk = xs.map (fun x => V.ref x.2.1) ∧ Vals vv (xs.map fun x => x.2.2) ∧ ks.map nk = xs.map (·.1) ∧ (∀ k ∈ ks, ∃ ys, k = .tup ys))
mutual
def RepV (wd : Wd) : D → V → Prop
  | .non, v => v = .non
  | .bl b, v => v = .bl b
  | .int i, v => v = .int i
  | .str s, v => v = .str (strV s)
  | .tup ds, v => ∃ a vs, v = .ref a ∧ ((wd.Fz a ∧ Rd wd.H a (.tup vs)) ∨ KT K a vs) ∧ RepVs wd ds vs ∧ ds.length ≤ most
  | .lst ds, v => ∃ a vs, v = .ref a ∧ ((wd.Fz a ∧ Rd wd.H a (.lst vs)) ∨ KL K a vs) ∧ RepVs wd ds vs ∧ ds.length ≤ most
  | .dct ks vs, v => ∃ a kk vv, v = .ref a ∧ wd.Fz a ∧ DctAt P w wd.H a ks kk vv ∧ RepVs wd ks kk ∧ RepVs wd vs vv ∧ ks.Nodup ∧ (∀ k ∈ ks, k.keyOk = true)
  | .set _, _ => False
  | .ref n, v => n < wd.z ∧ v = .ref (wd.ρ n)
  | .fn k, v => v = .ref (L.fad k)
  | .cls k, v => v = .ref (L.cad k)
  | .ty t, v => v = .ty (tyName t)
def RepVs (wd : Wd) : List D → List V → Prop
  | [], vs => vs = []
  | d :: ds, vs => ∃ v r, vs = v :: r ∧ RepV wd d v ∧ RepVs wd ds r
end
structure WOk (wd : Wd) : Prop where
  fz : ∀ a, wd.Fz a → Nt (wd.H a) ∧ ∀ n, n < wd.z → a ≠ wd.ρ n
  hp : ∀ n, n < wd.z → Nt (wd.H (wd.ρ n))
  inj : ∀ m n, m < wd.z → n < wd.z → wd.ρ m = wd.ρ n → m = n
  tabs : LamX.Tabs wd.T wd.H
structure Ext (a b : Wd) : Prop where
  z : a.z ≤ b.z
  ρ : ∀ n, n < a.z → b.ρ n = a.ρ n
  new : ∀ n, a.z ≤ n → n < b.z → ¬ Nt (a.H (b.ρ n))
  fz : ∀ x, a.Fz x → b.Fz x
  fzn : ∀ x, b.Fz x → a.Fz x ∨ ¬ Nt (a.H x)
  keep : ∀ x, Nt (a.H x) → (∀ n, n < a.z → x ≠ a.ρ n) → b.H x = a.H x
  T : b.T = a.T
  live : ∀ x, Nt (a.H x) → Nt (b.H x)
/-- what is frozen stays -/
structure ExtF (a b : Wd) : Prop where
  z : a.z ≤ b.z
  ρ : ∀ n, n < a.z → b.ρ n = a.ρ n
  fz : ∀ x, a.Fz x → b.Fz x
  keep : ∀ x, a.Fz x → b.H x = a.H x
/-- an object of the abstract heap at an address -/
def RepO (wd : Wd) (a : Addr) : MObj → Prop
  | .lst ds => ∃ vs, wd.H a = some (.lst vs) ∧ RepVs P w K L wd ds vs ∧ ds.length ≤ most
  | .dct ks vs => ∃ kk vv, DctAt P w wd.H a ks kk vv ∧ RepVs P w K L wd ks kk ∧ RepVs P w K L wd vs vv ∧ ks.Nodup ∧ (∀ k ∈ ks, k.keyOk = true) ∧ ∀ o u, wd.H a ≠ some (.frz o u)
  | .ins c fs => ∃ dx fv, wd.H a = some (.ins (L.cad c) dx fv) ∧ fv.map (·.1) = fs.map (fun p => L.an p.1) ∧ RepVs P w K L wd (fs.map (·.2)) (fv.map (·.2)) ∧ c < L.g.cls.length ∧ ∀ p ∈ fs, NoAttr K (L.cad c) (L.an p.1)
def RepH (wd : Wd) (h : AH) : Prop := h.length = wd.z ∧ ∀ n o, h[n]? = some o → RepO P w K L wd (wd.ρ n) o
/-- an owned container at p -/
def Own (wd : Wd) (d : D) (p : Addr) : Prop := (∃ o, objD d = some o ∧ RepO P w K L wd p o) ∧ ¬ wd.Fz p ∧ ∀ n, n < wd.z → p ≠ wd.ρ n
def RepP (wd : Wd) (d : D) (v : V) : Prop := RepV P w K L wd d v ∨ ∃ p, v = .ref p ∧ Own P w K L wd d p
def RepS (wd : Wd) : MSlot → Option V → Prop
  | .un, _ => True
  | .v d, v => ∃ x, v = some x ∧ RepV P w K L wd d x
  | .o d, v => ∃ p, v = some (.ref p) ∧ Own P w K L wd d p
structure RepE (wd : Wd) (σ : St) (en : MEnv) : Prop where
  len : en.length = σ.length
  at_ : ∀ (i : Nat) s v, en[i]? = some s → σ[i]? = some v → RepS P w K L wd s v
  tb : wd.T = L.T
  own : ∀ (i j : Nat) d e p, en[i]? = some (.o d) → en[j]? = some (.o e) → σ[i]? = some (some (.ref p)) → σ[j]? = some (some (.ref p)) → i = j
end

section
variable {P : Program} {w : World} {K : PySem.W.Frag} {L : Ln}
theorem RepVs.nil {wd : Wd} : RepVs P w K L wd [] [] := by simp [RepVs]
theorem RepVs.cons {wd : Wd} {d : D} {ds : List D} {v : V} {vs : List V} (a : RepV P w K L wd d v) (b : RepVs P w K L wd ds vs) : RepVs P w K L wd (d :: ds) (v :: vs) := by
  rw [RepVs]; exact ⟨v, vs, rfl, a, b⟩
theorem RepVs.inv {wd : Wd} {d : D} {ds : List D} {vs : List V} (h : RepVs P w K L wd (d :: ds) vs) : ∃ v r, vs = v :: r ∧ RepV P w K L wd d v ∧ RepVs P w K L wd ds r := by
  rw [RepVs] at h; exact h
theorem RepVs.nil_inv {wd : Wd} {vs : List V} (h : RepVs P w K L wd [] vs) : vs = [] := by
  rw [RepVs] at h; exact h
theorem RepVs.len {wd : Wd} : ∀ {ds : List D} {vs : List V}, RepVs P w K L wd ds vs → ds.length = vs.length
  | [], _, h => by rw [h.nil_inv] <;> rfl
  | d :: ds, _, h => by
    obtain ⟨v, r, rfl, _, h2⟩ := h.inv
    simp [h2.len]
theorem RepVs.get {wd : Wd} : ∀ {ds : List D} {vs : List V} {i : Nat} {d : D}, RepVs P w K L wd ds vs → ds[i]? = some d → ∃ v, vs[i]? = some v ∧ RepV P w K L wd d v
  | [], _, _, _, _, e => by simp at e
  | d :: ds, _, 0, _, h, e => by
    obtain ⟨v, r, rfl, h1, _⟩ := h.inv
    simp at e; subst e
    exact ⟨v, rfl, h1⟩
  | d :: ds, _, i + 1, _, h, e => by
    obtain ⟨v, r, rfl, _, h2⟩ := h.inv
    simp at e
    obtain ⟨u, e1, e2⟩ := h2.get e
    exact ⟨u, by simpa using e1, e2⟩
theorem RepVs.get' {wd : Wd} : ∀ {ds : List D} {vs : List V} {i : Nat} {v : V}, RepVs P w K L wd ds vs → vs[i]? = some v → ∃ d, ds[i]? = some d ∧ RepV P w K L wd d v
  | [], _, _, _, h, e => by rw [h.nil_inv] at e; simp at e
  | d :: ds, _, 0, _, h, e => by
    obtain ⟨v, r, rfl, h1, _⟩ := h.inv
    simp at e; subst e
    exact ⟨d, rfl, h1⟩
  | d :: ds, _, i + 1, _, h, e => by
    obtain ⟨v, r, rfl, _, h2⟩ := h.inv
    simp at e
    obtain ⟨u, e1, e2⟩ := h2.get' e
    exact ⟨u, by simpa using e1, e2⟩
theorem RepVs.app {wd : Wd} : ∀ {ds es : List D} {vs us : List V}, RepVs P w K L wd ds vs → RepVs P w K L wd es us → RepVs P w K L wd (ds ++ es) (vs ++ us)
  | [], _, _, _, h, k => by rw [h.nil_inv]; exact k
  | d :: ds, _, _, _, h, k => by
    obtain ⟨v, r, rfl, h1, h2⟩ := h.inv
    exact .cons h1 (h2.app k)
theorem RepVs.set {wd : Wd} : ∀ {ds : List D} {vs : List V} {i : Nat} {d : D} {v : V}, RepVs P w K L wd ds vs → RepV P w K L wd d v → RepVs P w K L wd (ds.set i d) (vs.set i v)
  | [], _, _, _, _, h, k => by rw [h.nil_inv]; exact .nil
  | d :: ds, _, 0, _, _, h, k => by
    obtain ⟨v, r, rfl, h1, h2⟩ := h.inv
    exact .cons k h2
  | d :: ds, _, i + 1, _, _, h, k => by
    obtain ⟨v, r, rfl, h1, h2⟩ := h.inv
    exact .cons h1 (h2.set k)
theorem RepVs.take {wd : Wd} : ∀ {ds : List D} {vs : List V} (n : Nat), RepVs P w K L wd ds vs → RepVs P w K L wd (ds.take n) (vs.take n)
  | _, _, 0, _ => by simpa using RepVs.nil
  | [], _, n + 1, h => by rw [h.nil_inv]; exact .nil
  | d :: ds, _, n + 1, h => by
    obtain ⟨v, r, rfl, h1, h2⟩ := h.inv
    exact .cons h1 (h2.take n)
theorem RepVs.drop {wd : Wd} : ∀ {ds : List D} {vs : List V} (n : Nat), RepVs P w K L wd ds vs → RepVs P w K L wd (ds.drop n) (vs.drop n)
  | _, _, 0, h => by simpa using h
  | [], _, n + 1, h => by rw [h.nil_inv]; exact .nil
  | d :: ds, _, n + 1, h => by
    obtain ⟨v, r, rfl, h1, h2⟩ := h.inv
    exact h2.drop n

theorem Ext.refl (a : Wd) : Ext a a := ⟨Nat.le_refl _, fun _ _ => rfl, fun n h1 h2 => absurd (Nat.lt_of_lt_of_le h2 h1) (Nat.lt_irrefl _), fun _ h => h, fun _ h => .inl h, fun _ _ _ => rfl, rfl, fun _ h => h⟩
theorem Ext.trans {a b c : Wd} (x : Ext a b) (y : Ext b c) : Ext a c where
  z := Nat.le_trans x.z y.z
  ρ := fun n h => (y.ρ n (Nat.lt_of_lt_of_le h x.z)).trans (x.ρ n h)
  new := fun n h1 h2 => by
    by_cases h : n < b.z
    · rw [y.ρ n h]; exact x.new n h1 h
    · exact fun z => y.new n (by omega) h2 (x.live _ z)
  fz := fun i h => y.fz i (x.fz i h)
  fzn := fun i h => by
    rcases y.fzn i h with q | q
    · exact x.fzn i q
    · exact .inr fun z => q (x.live _ z)
  keep := fun i h1 h2 => by
    have e := x.keep i h1 h2
    refine (y.keep i (by rw [e]; exact h1) fun n hn => ?_).trans e
    by_cases q : n < a.z
    · rw [x.ρ n q]; exact h2 n q
    · intro z
      have := x.new n (by omega) hn
      rw [← z] at this
      exact this h1
  T := y.T.trans x.T
  live := fun i h => y.live i (x.live i h)

theorem Ext.f {a b : Wd} (e : Ext a b) (ok : WOk a) : ExtF a b := ⟨e.z, e.ρ, e.fz, fun x h => e.keep x (ok.fz x h).1 (ok.fz x h).2⟩
theorem ExtF.refl (a : Wd) : ExtF a a := ⟨Nat.le_refl _, fun _ _ => rfl, fun _ h => h, fun _ _ => rfl⟩
theorem ExtF.trans {a b c : Wd} (x : ExtF a b) (y : ExtF b c) : ExtF a c := ⟨Nat.le_trans x.z y.z, fun n h => (y.ρ n (Nat.lt_of_lt_of_le h x.z)).trans (x.ρ n h), fun i h => y.fz i (x.fz i h), fun i h => (y.keep i (x.fz i h)).trans (x.keep i h)⟩
theorem Rd.extF {a b : Wd} (e : ExtF a b) {x : Addr} {u : HO} (f : a.Fz x) (r : Rd a.H x u) : Rd b.H x u := by
  have k := e.keep x f
  rcases r with r | ⟨o, r⟩
  · exact .inl (k.trans r)
  · exact .inr ⟨o, k.trans r⟩
theorem DctAt.ext' {H H' : Hp} {x : Addr} {ks : List D} {kk vv : List V} (e : H' x = H x) (d : DctAt P w H x ks kk vv) : DctAt P w H' x ks kk vv := by
  rcases d with ⟨kvs, r, h1, h2, h3⟩ | ⟨xs, r, h⟩
  · refine .inl ⟨kvs, ?_, h1, h2, h3⟩
    rcases r with r | ⟨o, r⟩
    · exact .inl (e.trans r)
    · exact .inr ⟨o, e.trans r⟩
  · exact .inr ⟨xs, e.trans r, h⟩
mutual
theorem RepV.extF {a b : Wd} (e : ExtF a b) : ∀ {d : D} {v : V}, RepV P w K L a d v → RepV P w K L b d v
  | .non, v, h => by rw [RepV] at h ⊢; exact h
  | .bl _, v, h => by rw [RepV] at h ⊢; exact h
  | .int _, v, h => by rw [RepV] at h ⊢; exact h
  | .str _, v, h => by rw [RepV] at h ⊢; exact h
  | .tup ds, v, h => by
    rw [RepV] at h ⊢
    obtain ⟨x, vs, h1, h2, h3⟩ := h
    refine ⟨x, vs, h1, ?_, RepVs.extF e h3.1, h3.2⟩
    rcases h2 with ⟨f, r⟩ | r
    · exact .inl ⟨e.fz x f, Rd.extF e f r⟩
    · exact .inr r
  | .lst ds, v, h => by
    rw [RepV] at h ⊢
    obtain ⟨x, vs, h1, h2, h3⟩ := h
    refine ⟨x, vs, h1, ?_, RepVs.extF e h3.1, h3.2⟩
    rcases h2 with ⟨f, r⟩ | r
    · exact .inl ⟨e.fz x f, Rd.extF e f r⟩
    · exact .inr r
  | .dct ks vs, v, h => by
    rw [RepV] at h ⊢
    obtain ⟨x, kk, vv, h1, h2, h3, h4, h5, h6⟩ := h
    exact ⟨x, kk, vv, h1, e.fz x h2, h3.ext' (e.keep x h2), RepVs.extF e h4, RepVs.extF e h5, h6⟩
  | .set _, v, h => by rw [RepV] at h; exact h.elim
  | .ref n, v, h => by
    rw [RepV] at h ⊢
    exact ⟨Nat.lt_of_lt_of_le h.1 e.z, by rw [e.ρ n h.1]; exact h.2⟩
  | .fn _, v, h => by rw [RepV] at h ⊢; exact h
  | .cls _, v, h => by rw [RepV] at h ⊢; exact h
  | .ty _, v, h => by rw [RepV] at h ⊢; exact h
theorem RepVs.extF {a b : Wd} (e : ExtF a b) : ∀ {ds : List D} {vs : List V}, RepVs P w K L a ds vs → RepVs P w K L b ds vs
  | [], vs, h => by rw [RepVs] at h ⊢; exact h
  | d :: ds, vs, h => by
    rw [RepVs] at h ⊢
    obtain ⟨v, r, h1, h2, h3⟩ := h
    exact ⟨v, r, h1, RepV.extF e h2, RepVs.extF e h3⟩
end
theorem RepV.ext {a b : Wd} (e : Ext a b) (ok : WOk a) {d : D} {v : V} (h : RepV P w K L a d v) : RepV P w K L b d v := h.extF (e.f ok)
theorem RepVs.ext {a b : Wd} (e : Ext a b) (ok : WOk a) {ds : List D} {vs : List V} (h : RepVs P w K L a ds vs) : RepVs P w K L b ds vs := h.extF (e.f ok)
theorem RepO.ext {a b : Wd} (e : Ext a b) (ok : WOk a) {x : Addr} {o : MObj} (k : b.H x = a.H x) (h : RepO P w K L a x o) : RepO P w K L b x o := by
  cases o with
  | lst ds => obtain ⟨vs, h1, h2, h3⟩ := h; exact ⟨vs, k.trans h1, h2.ext e ok, h3⟩
  | dct ks vs => obtain ⟨kk, vv, h1, h2, h3, h4, h5, h6⟩ := h; exact ⟨kk, vv, h1.ext' k, h2.ext e ok, h3.ext e ok, h4, h5, by rw [k]; exact h6⟩
  | ins c fs => obtain ⟨dx, fv, h1, h2, h3, h4⟩ := h; exact ⟨dx, fv, k.trans h1, h2, h3.ext e ok, h4⟩
theorem RepO.there {a : Wd} {x : Addr} {o : MObj} (h : RepO P w K L a x o) : a.H x ≠ none := by
  cases o with
  | lst ds => obtain ⟨vs, h1, h2⟩ := h; rw [h1]; simp
  | dct ks vs =>
    obtain ⟨kk, vv, h1, h2, h3⟩ := h
    rcases h1 with ⟨kvs, r | ⟨o, r⟩, _⟩ | ⟨xs, r, _⟩ <;> (rw [r]; simp)
  | ins c fs => obtain ⟨dx, fv, h1, h2, h3⟩ := h; rw [h1]; simp
theorem tdO_code {a : Addr} {xs : List (NestedKey × Addr × Value)} (c : Addr) (q : Str) : tdO P w a xs ≠ LamX.CodeO c q := fun z => by
  have z : HO.ext _ = HO.ext _ := z
  have zf := HO.ext.inj z
  let o1 : PySem.Obj := { cls := .none, data := .fields #[] }
  let o2 : PySem.Obj := { cls := .none, data := .fields #[.none, .str q 0] }
  let h : Heap := (⟨(List.replicate c o1).toArray, {}⟩ : Heap).push o2
  have sz : (⟨(List.replicate c o1).toArray, {}⟩ : Heap).objs.size = c := by simp
  have hc : h.get? c = some o2 := by
    have := Heap.get?_push_size (⟨(List.replicate c o1).toArray, {}⟩ : Heap) (o := o2) rfl
    rw [sz] at this
    exact this
  have fi : ∀ b o, h.get? b = some o → ∃ vs, o.data = .fields vs := fun b o e => by
    have e1 : h.objs[b]? = some o := by
      unfold Heap.get? at e
      split at e
      · cases e
      · exact e
    have e2 : ((List.replicate c o1).toArray.push o2)[b]? = some o := e1
    rw [Array.getElem?_push] at e2
    split at e2
    · cases e2; exact ⟨_, rfl⟩
    · have : o ∈ (List.replicate c o1) := by
        have := Array.mem_of_getElem? e2
        simpa using this
      rw [List.eq_of_mem_replicate this]
      exact ⟨_, rfl⟩
  have hp : (fun h : Heap => ∃ (oc : PySem.Obj) (vs : Array Value) (t : Tok), h.get? c = some oc ∧ oc.data = .fields vs ∧ vs[1]? = some (.str q t)) h := ⟨o2, _, 0, hc, rfl, rfl⟩
  rw [← zf] at hp
  obtain ⟨o, es, ep, h1, h2, h3, h4⟩ := hp
  obtain ⟨vs, hv⟩ := fi a o h1
  rw [h3] at hv
  cases hv
theorem RepO.pl {a : Wd} {x : Addr} {o : MObj} (h : RepO P w K L a x o) : Pl (a.H x) := by
  cases o with
  | lst ds => obtain ⟨vs, h1, h2⟩ := h; exact ⟨_, h1, (fun _ z => nomatch z), fun c q z => by have z : HO.lst vs = .ext _ := z; cases z⟩
  | dct ks vs =>
    obtain ⟨kk, vv, h1, h2, h3, h4, h5, h6⟩ := h
    rcases h1 with ⟨kvs, r | ⟨o, r⟩, _⟩ | ⟨xs, r, _⟩
    · exact ⟨_, r, (fun _ z => nomatch z), fun c q z => by have z : HO.dK kvs = .ext _ := z; cases z⟩
    · exact absurd r (h6 _ _)
    · exact ⟨_, r, (fun _ z => by have z : HO.ext _ = .tbl _ := z; cases z), fun c q => tdO_code c q⟩
  | ins c fs => obtain ⟨dx, fv, h1, h2, h3⟩ := h; exact ⟨_, h1, (fun _ z => nomatch z), fun c q z => by have z : HO.ins _ _ _ = .ext _ := z; cases z⟩
theorem Own.pl {a : Wd} {d : D} {p : Addr} (h : Own P w K L a d p) : Pl (a.H p) := by
  obtain ⟨⟨o, _, h⟩, _⟩ := h
  exact h.pl
theorem Own.there {a : Wd} {d : D} {p : Addr} (h : Own P w K L a d p) : a.H p ≠ none := by
  obtain ⟨⟨o, _, h⟩, _⟩ := h
  exact h.there
theorem Own.keep {a b : Wd} (e : Ext a b) {d : D} {p : Addr} (h : Own P w K L a d p) : b.H p = a.H p := e.keep p h.pl.nt h.2.2
theorem Own.ext {a b : Wd} (e : Ext a b) (ok : WOk a) {d : D} {p : Addr} (h : Own P w K L a d p) : Own P w K L b d p := by
  have k := h.keep e
  have th := h.pl.nt
  obtain ⟨⟨o, h1, h2⟩, h3, h4⟩ := h
  refine ⟨⟨o, h1, h2.ext e ok k⟩, fun f => ?_, fun n hn z => ?_⟩
  · rcases e.fzn p f with q | q
    · exact h3 q
    · exact q th
  · by_cases q : n < a.z
    · exact h4 n q (by rw [z, e.ρ n q])
    · have := e.new n (by omega) hn
      rw [← z] at this
      exact this th
theorem RepS.ext {a b : Wd} (e : Ext a b) (ok : WOk a) {s : MSlot} {v : Option V} (h : RepS P w K L a s v) : RepS P w K L b s v := by
  cases s with
  | un => trivial
  | v d => obtain ⟨x, h1, h2⟩ := h; exact ⟨x, h1, h2.ext e ok⟩
  | o d => obtain ⟨p, h1, h2⟩ := h; exact ⟨p, h1, h2.ext e ok⟩
theorem RepE.ext {a b : Wd} (e : Ext a b) (ok : WOk a) {σ : St} {en : MEnv} (h : RepE P w K L a σ en) : RepE P w K L b σ en :=
  ⟨h.len, fun i s v h1 h2 => (h.at_ i s v h1 h2).ext e ok, e.T.trans h.tb, h.own⟩
theorem RepP.ext {a b : Wd} (e : Ext a b) (ok : WOk a) {d : D} {v : V} (h : RepP P w K L a d v) : RepP P w K L b d v := by
  rcases h with h | ⟨p, h1, h2⟩
  · exact .inl (h.ext e ok)
  · exact .inr ⟨p, h1, h2.ext e ok⟩
end
end Mi
end
section
set_option Elab.async false
set_option linter.all false
set_option maxRecDepth 100000
set_option maxHeartbeats 2000000
/-! Readings of the mini language over HandS's judgements: expressions, tests. -/
namespace Mi
open PySem L2

section
variable (S : Sy)
/-- a state of the mini language lies here -/
structure Sat (wd : Wd) (σ : L2.St) (en : MEnv) (h : AH) : Prop where
  ok : WOk wd
  rh : RepH S.P S.w S.K S.L wd h
  re : RepE S.P S.w S.K S.L wd σ en
def Good (wd : Wd) (own : Bool) (Q : VK) (d : D) (h : AH) : Prop :=
  ∀ v wd', Ext wd wd' → WOk wd' → RepH S.P S.w S.K S.L wd' h → (if own = true then RepP S.P S.w S.K S.L wd' d v else RepV S.P S.w S.K S.L wd' d v) → Q v wd'.H
def Bad (wd : Wd) (W : Value → Option Addr → Hp → Prop) (c : Nat) (d : D) (h : AH) : Prop :=
  ∀ wd' dx v, Ext wd wd' → WOk wd' → RepH S.P S.w S.K S.L wd' h → RepV S.P S.w S.K S.L wd' d v → wd'.H dx = some (.xd [(("value" : Str), v)]) → W (.ref (S.L.cad c)) (some dx) wd'.H
def Post {α : Type} (wd : Wd) (W : Value → Option Addr → Hp → Prop) (good : α → AH → Prop) : R α → Prop
  | .ok a h => good a h
  | .exc c d h => Bad S wd W c d h
  | .fail => False
end
section
variable {X : Cx} {L : Ln} {wd wd1 : Wd} {σ : L2.St} {en : MEnv} {h : AH} {W : Value → Option Addr → Hp → Prop} {Q : VK}
theorem Sat.ext (s : Sat (sy X L) wd σ en h) {h1 : AH} (e : Ext wd wd1) (ok : WOk wd1) (rh : RepH X.prog X.w X.K L wd1 h1) : Sat (sy X L) wd1 σ en h1 := ⟨ok, rh, s.re.ext e s.ok⟩
theorem Good.ext {own : Bool} {d : D} (g : Good (sy X L) wd own Q d h) (e : Ext wd wd1) : Good (sy X L) wd1 own Q d h := fun v wd' e' => g v wd' (e.trans e')
theorem Bad.ext {c : Nat} {d : D} (g : Bad (sy X L) wd W c d h) (e : Ext wd wd1) : Bad (sy X L) wd1 W c d h := fun wd' dx v e' => g wd' dx v (e.trans e')
theorem Post.bind {α β : Type} {good : β → AH → Prop} {r : R α} {f : α → AH → R β} (p : Post (sy X L) wd W good (r.bind f)) : Post (sy X L) wd W (fun a h => Post (sy X L) wd W good (f a h)) r := by
  cases r with
  | ok a h => exact p
  | exc c d h => exact p
  | fail => exact p
theorem Post.mono {α : Type} {good good' : α → AH → Prop} {r : R α} (p : Post (sy X L) wd W good r) (k : ∀ a h, good a h → good' a h) : Post (sy X L) wd W good' r := by
  cases r with
  | ok a h => exact k _ _ p
  | exc c d h => exact p
  | fail => exact p
theorem Post.ext {α : Type} {good good' : α → AH → Prop} {r : R α} (p : Post (sy X L) wd W good r) (e : Ext wd wd1) (k : ∀ a h, good a h → good' a h) : Post (sy X L) wd1 W good' r := by
  cases r with
  | ok a h => exact k _ _ p
  | exc c d h => exact Bad.ext p e
  | fail => exact p
theorem Post.ofO {α : Type} {good : α → AH → Prop} {o : Option α} (p : Post (sy X L) wd W good (ofO o h)) : ∃ a, o = some a ∧ good a h := by
  cases o with
  | some a => exact ⟨a, rfl, p⟩
  | none => exact p.elim
theorem RepV.p {P w K d v} (r : RepV P w K L wd d v) : RepP P w K L wd d v := .inl r
end

section
variable (S : Sy) (call : CallT) (W : WX)
/-- the reading of an expression -/
def RdE (e : E) : TE := fun σ H Q => ∃ en h wd, wd.H = H ∧ Sat S wd σ en h ∧ Post S wd (fun c d => W c d σ) (Good S wd (isOwn e en) Q) (evE S.L.g call e en h)
/-- of a value that is kept -/
def RdV (e : E) : TE := fun σ H Q => ∃ en h wd, wd.H = H ∧ Sat S wd σ en h ∧ Post S wd (fun c d => W c d σ) (Good S wd false Q) (evV S.L.g call e en h)
def GoodB (wd : Wd) (Q : Bool → Hp → Prop) (b : Bool) (h : AH) : Prop := ∀ wd', Ext wd wd' → WOk wd' → RepH S.P S.w S.K S.L wd' h → Q b wd'.H
def RdB (e : B) : TT := fun σ H Q => ∃ en h wd, wd.H = H ∧ Sat S wd σ en h ∧ Post S wd (fun c d => W c d σ) (GoodB S wd Q) (evB S.L.g call e en h)
def GoodA (wd : Wd) (own : Bool) (Q : List V → Hp → Prop) (ds : List D) (h : AH) : Prop :=
  ∀ vs wd', Ext wd wd' → WOk wd' → RepH S.P S.w S.K S.L wd' h → (own = false → RepVs S.P S.w S.K S.L wd' ds vs) → (Paired (RepP S.P S.w S.K S.L wd') ds vs) → Q vs wd'.H
def RdA (es : Es) : TA := fun σ H Q => ∃ en h wd, wd.H = H ∧ Sat S wd σ en h ∧ Post S wd (fun c d => W c d σ) (GoodA S wd false Q) (evEs S.L.g call es en h)
def RdP (es : Es) : TA := fun σ H Q => ∃ en h wd, wd.H = H ∧ Sat S wd σ en h ∧ Post S wd (fun c d => W c d σ) (GoodA S wd true Q) (evPs S.L.g call es en h)
/-- by values: one, two, three operands that are looked at; a pure answer -/
def RV1 (f : D → AH → Option D) : V → Hp → VK → Prop := fun x H Q => ∃ h wd dx, wd.H = H ∧ WOk wd ∧ RepH S.P S.w S.K S.L wd h ∧ RepP S.P S.w S.K S.L wd dx x ∧ ∃ d, f dx h = some d ∧ Good S wd false Q d h
def RV2 (f : D → D → AH → Option D) : R2 := fun x y H Q => ∃ h wd dx dy, wd.H = H ∧ WOk wd ∧ RepH S.P S.w S.K S.L wd h ∧ RepP S.P S.w S.K S.L wd dx x ∧ RepP S.P S.w S.K S.L wd dy y ∧
  ∃ d, f dx dy h = some d ∧ Good S wd false Q d h
def RVL (f : List D → AH → Option D) : List V → Hp → VK → Prop := fun xs H Q => ∃ h wd ds, wd.H = H ∧ WOk wd ∧ RepH S.P S.w S.K S.L wd h ∧ Paired (RepP S.P S.w S.K S.L wd) ds xs ∧ ∃ d, f ds h = some d ∧ Good S wd false Q d h
end

section
variable {X : Cx} {L : Ln} {call : CallT} {W : WX} {e : Expr} {t t' : TE}
theorem _root_.L2.PE.impM (h : PE X e t) (k : ∀ σ H Q, t' σ H Q → t σ H Q) : PE X e t' := ⟨fun pins s σ H Q I q => h.run pins s σ H Q I (k _ _ _ q)⟩
theorem _root_.L2.PT.impM {t t' : TT} (h : PT X e t) (k : ∀ σ H Q, t' σ H Q → t σ H Q) : PT X e t' := ⟨fun pins s σ H Q I q => h.run pins s σ H Q I (k _ _ _ q)⟩
theorem _root_.L2.PW.impM {t t' : TT} (h : PW X e t) (k : ∀ σ H Q, t' σ H Q → t σ H Q) : PW X e t' := ⟨fun wh pins s σ H Q I q => h.run wh pins s σ H Q I (k _ _ _ q)⟩
theorem _root_.L2.PA.impM {es : List Expr} {t t' : TA} (h : PA X es t) (k : ∀ σ H Q, t' σ H Q → t σ H Q) : PA X es t' := ⟨fun ps pins s σ H Q I q => h.run ps pins s σ H Q I (k _ _ _ q)⟩

/-- a kept value -/
theorem isOwn_of_evV {e : E} {en : MEnv} {h : AH} : (evV L.g call e en h = .fail) ∨ (isOwn e en = false ∧ evV L.g call e en h = evE L.g call e en h) := by
  unfold evV
  cases q : isOwn e en with
  | true => left; simp
  | false => right; simp
theorem rdV_of {e' : E} (h : PE X e (RdE (sy X L) call W e')) : PE X e (RdV (sy X L) call W e') := h.impM fun σ H Q ⟨en, hp, wd, e1, st, p⟩ => by
  refine ⟨en, hp, wd, e1, st, ?_⟩
  rcases isOwn_of_evV (L := L) (call := call) (e := e') (en := en) (h := hp) with q | ⟨q1, q2⟩
  · rw [q] at p; exact p.elim
  · rw [q1]; rw [q2] at p; exact p
theorem rd_c {d : D} {v : V} {c : Const} {j : Nat} {pos : Pos} (h : PE X (.Constant c j pos) (tC v)) (r : ∀ wd, RepV X.prog X.w X.K L wd d v) : PE X (.Constant c j pos) (RdE (sy X L) call W (.c d)) :=
  h.impM fun σ H Q ⟨en, hp, wd, e1, st, p⟩ => by
    subst e1
    rw [evE] at p
    exact p v wd (Ext.refl _) st.ok st.rh (r wd)
theorem rd_g {k : Nat} {d : D} {v : V} {x : Str} {pos : Pos} (h : PE X (.Name x pos) (tC v)) (r : ∀ wd, RepV X.prog X.w X.K L wd d v) : PE X (.Name x pos) (RdE (sy X L) call W (.g k d)) :=
  h.impM fun σ H Q ⟨en, hp, wd, e1, st, p⟩ => by
    subst e1
    rw [evE] at p
    exact p v wd (Ext.refl _) st.ok st.rh (r wd)
theorem rd_v {i : Nat} {x : Str} {pos : Pos} (h : PE X (.Name x pos) (tVar i)) : PE X (.Name x pos) (RdE (sy X L) call W (.v i)) :=
  h.impM fun σ H Q ⟨en, hp, wd, e1, st, p⟩ => by
    subst e1
    rw [evE] at p
    cases q : en[i]? with
    | none => simp only [q] at p; exact p.elim
    | some s =>
      have hi : i < σ.length := by
        rw [← st.re.len]
        exact (List.getElem?_eq_some_iff.mp q).1
      have e2 : σ[i]? = some σ[i] := List.getElem?_eq_getElem hi
      have rs := st.re.at_ i s _ q e2
      cases s with
      | un => simp only [q] at p; exact p.elim
      | v d =>
        simp only [q] at p
        obtain ⟨x, h1, h2⟩ := rs
        refine ⟨x, by rw [e2, h1], p x wd (Ext.refl _) st.ok st.rh ?_⟩
        have : isOwn (.v i) en = false := by simp [isOwn, q]
        rw [if_neg (by rw [this]; simp)]
        exact h2
      | o d =>
        simp only [q] at p
        obtain ⟨x, h1, h2⟩ := rs
        refine ⟨.ref x, by rw [e2, h1], p (.ref x) wd (Ext.refl _) st.ok st.rh ?_⟩
        have : isOwn (.v i) en = true := by simp [isOwn, q]
        rw [if_pos this]
        exact .inr ⟨x, rfl, h2⟩
theorem own_p {own : Bool} {wd : Wd} {d : D} {v : V} (r : if own = true then RepP X.prog X.w X.K L wd d v else RepV X.prog X.w X.K L wd d v) : RepP X.prog X.w X.K L wd d v := by
  cases own with
  | true => exact r
  | false => exact .inl r
/-- run one expression, then go on -/
theorem rdE_step {e' : E} {σ : L2.St} {en : MEnv} {h : AH} {wd : Wd} {good : D → AH → Prop} {Q : VK} (st : Sat (sy X L) wd σ en h) (p : Post (sy X L) wd (fun c d => W c d σ) good (evE L.g call e' en h))
    (k : ∀ d h1 v wd1, good d h1 → Ext wd wd1 → Sat (sy X L) wd1 σ en h1 → RepP X.prog X.w X.K L wd1 d v → (isOwn e' en = false → RepV X.prog X.w X.K L wd1 d v) → Q v wd1.H) : RdE (sy X L) call W e' σ wd.H Q :=
  ⟨en, h, wd, rfl, st, p.mono fun d h1 g v wd1 e1 ok1 rh1 r => k d h1 v wd1 g e1 (st.ext e1 ok1 rh1) (own_p r) fun q => by
    rw [if_neg (by rw [q]; simp)] at r; exact r⟩
theorem rd_un {o : UOp} {op : UnaryOp} {a : Expr} {a' : E} {pos : Pos} (ho : UnR X (unaryOp op) (RV1 (sy X L) (unD o))) (ha : PE X a (RdE (sy X L) call W a')) : PE X (.UnaryOp op a pos) (RdE (sy X L) call W (.un o a')) :=
  (pe_un ho ha).impM fun σ H Q ⟨en, h, wd, e1, st, p⟩ => by
    subst e1
    rw [evE] at p
    refine rdE_step st p.bind fun d h1 v wd1 g e1 st1 r _ => ?_
    obtain ⟨y, hy, g⟩ := g.ofO
    exact ⟨h1, wd1, d, rfl, st1.ok, st1.rh, r, y, hy, g.ext e1⟩
/-- two operands -/
theorem rd_2 {a' b' whole : E} {f : D → D → AH → Option D} {σ : L2.St} {H : Hp} {Q : VK}
    (hw : ∀ en h, evE L.g call whole en h = (evE L.g call a' en h).bind fun x h => (evE L.g call b' en h).bind fun y h => ofO (f x y h) h) (ho : ∀ en, isOwn whole en = false)
    (q : RdE (sy X L) call W whole σ H Q) : tOp (RV2 (sy X L) f) (RdE (sy X L) call W a') (RdE (sy X L) call W b') σ H Q := by
  obtain ⟨en, h, wd, e1, st, p⟩ := q
  subst e1
  rw [hw, ho] at p
  refine rdE_step st p.bind fun d h1 v wd1 g e1 st1 r _ => ?_
  refine rdE_step st1 (Post.ext g.bind e1 fun _ _ z => z) fun d2 h2 v2 wd2 g2 e2 st2 r2 _ => ?_
  obtain ⟨y, hy, g3⟩ := g2.ofO
  exact ⟨h2, wd2, d, d2, rfl, st2.ok, st2.rh, r.ext e2 st1.ok, r2, y, hy, g3.ext (e1.trans e2)⟩
theorem rd_bin {o : Bin} {op : Operator} {a b : Expr} {a' b' : E} {pos : Pos} (ho : OpR X (binaryOp op) (RV2 (sy X L) fun x y _ => binD o x y)) (ha : PE X a (RdE (sy X L) call W a')) (hb : PE X b (RdE (sy X L) call W b')) :
    PE X (.BinOp a op b pos) (RdE (sy X L) call W (.bin o a' b')) := (pe_op ho ha hb).impM fun σ H Q q => rd_2 (fun en h => by rw [evE]) (fun _ => rfl) q
theorem rd_cmp {o : Cmp} {op : CmpOp} {a b : Expr} {a' b' : E} {pos : Pos} (ho : OpR X (compareOp op) (RV2 (sy X L) fun x y h => cmpD o x y h)) (ha : PE X a (RdE (sy X L) call W a')) (hb : PE X b (RdE (sy X L) call W b')) (hm : behindInMarks op b = false) :
    PE X (.Compare a [op] [b] pos) (RdE (sy X L) call W (.cmp o a' b')) := (pe_cmpR ho ha hb hm).impM fun σ H Q q => rd_2 (fun en h => by rw [evE]) (fun _ => rfl) q
theorem rd_ix {a b : Expr} {a' b' : E} {pos : Pos} (ho : IxR X (RV2 (sy X L) fun x y h => ixD x y h)) (ha : PE X a (RdE (sy X L) call W a')) (hb : PE X b (RdE (sy X L) call W b')) (hs : PlainIx b) :
    PE X (.Subscript a b pos) (RdE (sy X L) call W (.ix a' b')) := (pe_ix ho ha hb hs).impM fun σ H Q q => rd_2 (fun en h => by rw [evE]) (fun _ => rfl) q
/-- a bool -/
theorem RepP.bl {wd : Wd} {b : Bool} {v : V} {P w K} (r : RepP P w K L wd (.bl b) v) : v = .bl b := by
  rcases r with r | ⟨p, _, ⟨⟨o, ho, _⟩, _⟩⟩
  · rw [RepV] at r; exact r
  · cases ho
theorem cmpD_bl {o : Cmp} {x y d : D} {h : AH} (e : cmpD o x y h = some d) : ∃ b, d = .bl b := by
  have aux : ∀ {o : Option Bool} {g : Bool → Bool}, (o.map fun b => D.bl (g b)) = some d → ∃ b, d = .bl b := fun {o g} e => by
    cases o with
    | none => cases e
    | some b => exact ⟨_, (Option.some.inj e).symm⟩
  cases o <;> simp only [cmpD, D.ord] at e
  all_goals
    repeat' split at e
    all_goals first | exact ⟨_, (Option.some.inj e).symm⟩ | exact aux (g := fun b => b) e | exact aux e | cases e
theorem Post.monoE {wd : Wd} {W : Value → Option Addr → Hp → Prop} {α : Type} {good good' : α → AH → Prop} {r : R α} (p : Post (sy X L) wd W good r) (k : ∀ a h, r = .ok a h → good a h → good' a h) : Post (sy X L) wd W good' r := by
  cases r with
  | ok a h => exact k _ _ rfl p
  | exc c d h => exact p
  | fail => exact p
theorem evE_cmp_bl {g : G} {o : Cmp} {a b : E} {en : MEnv} {h h1 : AH} {d : D} (e : evE g call (.cmp o a b) en h = .ok d h1) : ∃ b, d = .bl b := by
  rw [evE] at e
  cases e1 : evE g call a en h with
  | ok x h2 =>
    rw [e1] at e
    dsimp only [R.bind] at e
    cases e2 : evE g call b en h2 with
    | ok y h3 =>
      rw [e2] at e
      dsimp only at e
      cases e3 : cmpD o x y h3 with
      | none => rw [e3] at e; cases e
      | some z =>
        rw [e3] at e
        obtain ⟨k, rfl⟩ := cmpD_bl e3
        cases e
        exact ⟨_, rfl⟩
    | exc c d h' => rw [e2] at e; cases e
    | fail => rw [e2] at e; cases e
  | exc c d h' => rw [e1] at e; cases e
  | fail => rw [e1] at e; cases e
theorem rd_chn {o p : Cmp} {op op' : CmpOp} {a b c : Expr} {a' b' c' : E} {pos : Pos} (ho : OpR X (compareOp op) (RV2 (sy X L) fun x y h => cmpD o x y h)) (hp : OpR X (compareOp op') (RV2 (sy X L) fun x y h => cmpD p x y h))
    (ha : PE X a (RdE (sy X L) call W a')) (hb : PE X b (RdE (sy X L) call W b')) (hc : PE X c (RdE (sy X L) call W c')) (hm : lastMarks [op, op'] [b, c] = false) :
    PE X (.Compare a [op, op'] [b, c] pos) (RdE (sy X L) call W (.chn o p a' b' c')) := (pe_chain ho hp ha hb hc hm).impM fun σ H Q ⟨en, h, wd, e1, st, q⟩ => by
  subst e1
  rw [evE] at q
  refine rdE_step st q.bind fun d h1 v wd1 g e1 st1 r _ => ?_
  refine rdE_step st1 (Post.ext g.bind e1 fun _ _ z => z) fun d2 h2 v2 wd2 g2 e2 st2 r2 _ => ?_
  cases e : cmpD o d d2 h2 with
  | none => rw [e] at g2; exact g2.elim
  | some z =>
    obtain ⟨k, rfl⟩ := cmpD_bl e
    rw [e] at g2
    refine ⟨h2, wd2, d, d2, rfl, st2.ok, st2.rh, r.ext e2 st1.ok, r2, _, e, fun u wd3 e3 ok3 rh3 r3 => ?_⟩
    have r3 : RepV X.prog X.w X.K L wd3 (.bl k) u := r3
    rw [RepV] at r3
    subst r3
    refine ⟨k, rfl, ?_⟩
    cases k with
    | false =>
      refine iteF ?_
      exact g2 (.bl false) wd3 (e1.trans (e2.trans e3)) ok3 rh3 (by simp [isOwn, RepV])
    | true =>
      refine iteT ?_
      have st3 := st2.ext e3 ok3 rh3
      refine rdE_step st3 (Post.ext (Post.bind g2) (e1.trans (e2.trans e3)) fun _ _ z => z) fun d3 h3 v3 wd4 g4 e4 st4 r4 _ => ?_
      obtain ⟨y, hy, g5⟩ := g4.ofO
      obtain ⟨k2, rfl⟩ := cmpD_bl hy
      refine ⟨h3, wd4, d2, d3, rfl, st4.ok, st4.rh, (r2.ext e3 st2.ok).ext e4 ok3, r4, _, hy, fun u wd5 e5 ok5 rh5 r5 => ?_⟩
      have r5 : RepV X.prog X.w X.K L wd5 (.bl k2) u := r5
      rw [RepV] at r5
      subst r5
      exact g5 (.bl k2) wd5 (e1.trans (e2.trans (e3.trans (e4.trans e5)))) ok5 rh5 (by simp [isOwn, RepV])

/-! ### tests -/
theorem rdB_step {e' : B} {σ : L2.St} {en : MEnv} {h : AH} {wd : Wd} {good : Bool → AH → Prop} {Q : Bool → Hp → Prop} (st : Sat (sy X L) wd σ en h) (p : Post (sy X L) wd (fun c d => W c d σ) good (evB L.g call e' en h))
    (k : ∀ b h1 wd1, good b h1 → Ext wd wd1 → Sat (sy X L) wd1 σ en h1 → Q b wd1.H) : RdB (sy X L) call W e' σ wd.H Q :=
  ⟨en, h, wd, rfl, st, p.mono fun b h1 g wd1 e1 ok1 rh1 => k b h1 wd1 g e1 (st.ext e1 ok1 rh1)⟩
/-- truth by values -/
def RT1 (S : Sy) : V → Hp → (Bool → Hp → Prop) → Prop := fun x H Q => ∃ h wd dx b, wd.H = H ∧ WOk wd ∧ RepH S.P S.w S.K S.L wd h ∧ RepP S.P S.w S.K S.L wd dx x ∧ truD dx h = some b ∧ Q b wd.H
theorem rb_e {a : Expr} {a' : E} (ht : TruR X (RT1 (sy X L))) (ha : PE X a (RdE (sy X L) call W a')) (he : ∀ whole, isTrue a X.env whole = (do let v ← whole; standAt a.pos; holding [v] (truthy v))) : PT X a (RdB (sy X L) call W (.e a')) := by
  refine ⟨fun pins s σ H Q I q => ?_⟩
  obtain ⟨en, h, wd, e1, st, p⟩ := q
  subst e1
  rw [evB] at p
  have g : RdE (sy X L) call W a' σ wd.H fun x H1 => RT1 (sy X L) x H1 Q := rdE_step st p.bind fun d h1 v wd1 g e1 st1 r _ => by
    obtain ⟨y, hy, g⟩ := g.ofO
    exact ⟨h1, wd1, d, y, rfl, st1.ok, st1.rh, r, hy, g wd1 e1 st1.ok st1.rh⟩
  exact PyProof.Rows.isTrue_plain (thn (ha.run pins s σ _ _ I g) fun v s1 ⟨x, H1, I1, r1, q1⟩ => ht pins s1 σ H1 x v Q I1 r1 q1) (he _)
/-- a comparison -/
theorem rb_cmp {o : Cmp} {op : CmpOp} {a b : Expr} {a' b' : E} {pos : Pos} (ho : OpR X (compareOp op) (RV2 (sy X L) fun x y h => cmpD o x y h)) (ha : PE X a (RdE (sy X L) call W a')) (hb : PE X b (RdE (sy X L) call W b')) (hm : behindInMarks op b = false) :
    PT X (.Compare a [op] [b] pos) (RdB (sy X L) call W (.e (.cmp o a' b'))) := (pt_cmpR ho ha hb hm).impM fun σ H Q ⟨en, h, wd, e1, st, p⟩ => by
  subst e1
  refine rd_2 (W := W) (whole := .cmp o a' b') (f := fun x y h => cmpD o x y h) (fun en h => by rw [evE]) (fun _ => rfl) ⟨en, h, wd, rfl, st, ?_⟩
  rw [evB] at p
  refine p.bind.monoE fun d h1 he g v wd1 e1 ok1 rh1 r => ?_
  obtain ⟨y, hy, g⟩ := g.ofO
  have r' := own_p r
  obtain ⟨k, rfl⟩ := evE_cmp_bl he
  have := r'.bl
  subst this
  have : y = k := (Option.some.inj hy).symm
  subst this
  exact ⟨y, rfl, g wd1 e1 ok1 rh1⟩
theorem rb_and {a b : Expr} {pos : Pos} {rest : List Expr} {a' b' : B} (ha : PT X a (RdB (sy X L) call W a')) (hb : PW X (.BoolOp .And (b :: rest) pos) (RdB (sy X L) call W b')) : PW X (.BoolOp .And (a :: b :: rest) pos) (RdB (sy X L) call W (.and a' b')) :=
  (pw_and ha hb).impM fun σ H Q ⟨en, h, wd, e1, st, p⟩ => by
    subst e1
    rw [evB] at p
    refine rdB_step st p.bind fun k h1 wd1 g e1 st1 => ?_
    cases k with
    | true => exact iteT ⟨en, h1, wd1, rfl, st1, Post.ext g e1 fun b h2 g wd2 e2 => g wd2 (e1.trans e2)⟩
    | false => exact iteF (g wd1 e1 st1.ok st1.rh)
theorem rb_or {a b : Expr} {pos : Pos} {rest : List Expr} {a' b' : B} (ha : PT X a (RdB (sy X L) call W a')) (hb : PW X (.BoolOp .Or (b :: rest) pos) (RdB (sy X L) call W b')) : PW X (.BoolOp .Or (a :: b :: rest) pos) (RdB (sy X L) call W (.or a' b')) :=
  (pw_or ha hb).impM fun σ H Q ⟨en, h, wd, e1, st, p⟩ => by
    subst e1
    rw [evB] at p
    refine rdB_step st p.bind fun k h1 wd1 g e1 st1 => ?_
    cases k with
    | true => exact iteT (g wd1 e1 st1.ok st1.rh)
    | false => exact iteF ⟨en, h1, wd1, rfl, st1, Post.ext g e1 fun b h2 g wd2 e2 => g wd2 (e1.trans e2)⟩
theorem rb_not {a : Expr} {pos : Pos} {a' : B} (ha : PT X a (RdB (sy X L) call W a')) : PT X (.UnaryOp .Not a pos) (RdB (sy X L) call W (.not a')) :=
  (pt_not ha).impM fun σ H Q ⟨en, h, wd, e1, st, p⟩ => by
    subst e1
    rw [evB] at p
    exact rdB_step st p.bind fun k h1 wd1 g e1 st1 => g wd1 e1 st1.ok st1.rh
/-- and, or as values: bools -/
theorem rd_and {a b : Expr} {pos : Pos} {rest : List Expr} {a' b' : E} (ha : PE X a (RdE (sy X L) call W a')) (hb : PE X (.BoolOp .And (b :: rest) pos) (RdV (sy X L) call W b')) : PE X (.BoolOp .And (a :: b :: rest) pos) (RdE (sy X L) call W (.and a' b')) :=
  (pe_and ha hb).impM fun σ H Q ⟨en, h, wd, e1, st, p⟩ => by
    subst e1
    rw [evE] at p
    refine rdE_step st p.bind fun d h1 v wd1 g e1 st1 r _ => ?_
    cases d with
    | bl k =>
      have := r.bl
      subst this
      refine ⟨k, rfl, ?_⟩
      cases k with
      | true =>
        refine iteT ⟨en, h1, wd1, rfl, st1, Post.ext g e1 fun b h2 g v wd2 e2 => ?_⟩
        exact g v wd2 (e1.trans e2)
      | false => exact iteF (g (.bl false) wd1 e1 st1.ok st1.rh (by simp [isOwn, RepV]))
    | _ => exact g.elim
theorem rd_or {a b : Expr} {pos : Pos} {rest : List Expr} {a' b' : E} (ha : PE X a (RdE (sy X L) call W a')) (hb : PE X (.BoolOp .Or (b :: rest) pos) (RdV (sy X L) call W b')) : PE X (.BoolOp .Or (a :: b :: rest) pos) (RdE (sy X L) call W (.or a' b')) :=
  (pe_or ha hb).impM fun σ H Q ⟨en, h, wd, e1, st, p⟩ => by
    subst e1
    rw [evE] at p
    refine rdE_step st p.bind fun d h1 v wd1 g e1 st1 r _ => ?_
    cases d with
    | bl k =>
      have := r.bl
      subst this
      refine ⟨k, rfl, ?_⟩
      cases k with
      | false =>
        refine iteF ⟨en, h1, wd1, rfl, st1, Post.ext g e1 fun b h2 g v wd2 e2 => ?_⟩
        exact g v wd2 (e1.trans e2)
      | true => exact iteT (g (.bl true) wd1 e1 st1.ok st1.rh (by simp [isOwn, RepV]))
    | _ => exact g.elim
theorem rd_ife {t a b : Expr} {pos : Pos} {t' : B} {a' b' : E} (ht : PT X t (RdB (sy X L) call W t')) (ha : PE X a (RdV (sy X L) call W a')) (hb : PE X b (RdV (sy X L) call W b')) : PE X (.IfExp t a b pos) (RdE (sy X L) call W (.ife t' a' b')) :=
  (pe_ifExp ht ha hb).impM fun σ H Q ⟨en, h, wd, e1, st, p⟩ => by
    subst e1
    rw [evE] at p
    refine rdB_step st p.bind fun k h1 wd1 g e1 st1 => ?_
    cases k with
    | true => exact iteT ⟨en, h1, wd1, rfl, st1, Post.ext g e1 fun b h2 g v wd2 e2 => g v wd2 (e1.trans e2)⟩
    | false => exact iteF ⟨en, h1, wd1, rfl, st1, Post.ext g e1 fun b h2 g v wd2 e2 => g v wd2 (e1.trans e2)⟩

/-! ### argument lists -/
theorem paired_of : ∀ {wd : Wd} {ds : List D} {vs : List V}, RepVs X.prog X.w X.K L wd ds vs → Paired (RepP X.prog X.w X.K L wd) ds vs
  | _, [], _, h => by rw [h.nil_inv]; exact .nil
  | _, d :: ds, _, h => by
    obtain ⟨v, r, rfl, h1, h2⟩ := h.inv
    exact .cons (.inl h1) (paired_of h2)
theorem paired_ext {a b : Wd} (e : Ext a b) (ok : WOk a) : ∀ {ds : List D} {vs : List V}, Paired (RepP X.prog X.w X.K L a) ds vs → Paired (RepP X.prog X.w X.K L b) ds vs
  | _, _, .nil => .nil
  | _, _, .cons r t => .cons (r.ext e ok) (paired_ext e ok t)
theorem ra_nil : PA X [] (RdA (sy X L) call W .nil) := pa_nil.impM fun σ H Q ⟨en, h, wd, e1, st, p⟩ => by
  subst e1
  rw [evEs] at p
  exact p [] wd (Ext.refl _) st.ok st.rh (fun _ => .nil) .nil
theorem rp_nil : PA X [] (RdP (sy X L) call W .nil) := pa_nil.impM fun σ H Q ⟨en, h, wd, e1, st, p⟩ => by
  subst e1
  rw [evPs] at p
  exact p [] wd (Ext.refl _) st.ok st.rh (fun _ => .nil) .nil
theorem ra_cons {a : Expr} {es : List Expr} {a' : E} {es' : Es} (ha : PE X a (RdE (sy X L) call W a')) (hr : PA X es (RdA (sy X L) call W es')) (hs : starEach (a :: es) X.env = (false, eval a X.env) :: starEach es X.env) : PA X (a :: es) (RdA (sy X L) call W (.cons a' es')) :=
  (pa_cons ha hr hs).impM fun σ H Q ⟨en, h, wd, e1, st, p⟩ => by
    subst e1
    rw [evEs] at p
    cases q : isOwn a' en with
    | true => rw [q] at p; exact p.elim
    | false =>
      rw [q] at p
      refine rdE_step st (Post.bind p) fun d h1 v wd1 g e1 st1 r rv => ?_
      refine ⟨en, h1, wd1, rfl, st1, (Post.ext (Post.bind g) e1 fun _ _ z => z).mono fun ds h2 g2 vs wd2 e2 ok2 rh2 r2 _ => ?_⟩
      have r3 : RepVs X.prog X.w X.K L wd2 (d :: ds) (v :: vs) := .cons ((rv q).ext e2 st1.ok) (r2 rfl)
      exact g2 (v :: vs) wd2 (e1.trans e2) ok2 rh2 (fun _ => r3) (paired_of r3)
theorem rp_cons {a : Expr} {es : List Expr} {a' : E} {es' : Es} (ha : PE X a (RdE (sy X L) call W a')) (hr : PA X es (RdP (sy X L) call W es')) (hs : starEach (a :: es) X.env = (false, eval a X.env) :: starEach es X.env) : PA X (a :: es) (RdP (sy X L) call W (.cons a' es')) :=
  (pa_cons ha hr hs).impM fun σ H Q ⟨en, h, wd, e1, st, p⟩ => by
    subst e1
    rw [evPs] at p
    refine rdE_step st (Post.bind p) fun d h1 v wd1 g e1 st1 r rv => ?_
    refine ⟨en, h1, wd1, rfl, st1, (Post.ext (Post.bind g) e1 fun _ _ z => z).mono fun ds h2 g2 vs wd2 e2 ok2 rh2 _ r2 => ?_⟩
    exact g2 (v :: vs) wd2 (e1.trans e2) ok2 rh2 (fun z => by cases z) (.cons (r.ext e2 st1.ok) r2)
end
end Mi
end
section
set_option Elab.async false
set_option linter.all false
set_option maxRecDepth 100000
set_option maxHeartbeats 2000000
/-! New objects, displays, calls, methods, attributes. -/
namespace Mi
open PySem L2

/-! ### worlds that differ in what is frozen, in the heap's numbers -/
structure Sub (a b : Wd) : Prop where
  H : b.H = a.H
  fz : ∀ x, a.Fz x → b.Fz x
  z : a.z ≤ b.z
  ρ : ∀ n, n < a.z → b.ρ n = a.ρ n
section
variable {P : Program} {w : World} {K : PySem.W.Frag} {L : Ln}
mutual
theorem RepV.sub {a b : Wd} (e : Sub a b) : ∀ {d : D} {v : V}, RepV P w K L a d v → RepV P w K L b d v
  | .non, v, h => by rw [RepV] at h ⊢; exact h
  | .bl _, v, h => by rw [RepV] at h ⊢; exact h
  | .int _, v, h => by rw [RepV] at h ⊢; exact h
  | .str _, v, h => by rw [RepV] at h ⊢; exact h
  | .tup ds, v, h => by
    rw [RepV] at h ⊢
    obtain ⟨x, vs, h1, h2, h3⟩ := h
    refine ⟨x, vs, h1, ?_, RepVs.sub e h3.1, h3.2⟩
    rcases h2 with ⟨f, r⟩ | r
    · exact .inl ⟨e.fz x f, by rw [e.H]; exact r⟩
    · exact .inr r
  | .lst ds, v, h => by
    rw [RepV] at h ⊢
    obtain ⟨x, vs, h1, h2, h3⟩ := h
    refine ⟨x, vs, h1, ?_, RepVs.sub e h3.1, h3.2⟩
    rcases h2 with ⟨f, r⟩ | r
    · exact .inl ⟨e.fz x f, by rw [e.H]; exact r⟩
    · exact .inr r
  | .dct ks vs, v, h => by
    rw [RepV] at h ⊢
    obtain ⟨x, kk, vv, h1, h2, h3, h4, h5, h6⟩ := h
    exact ⟨x, kk, vv, h1, e.fz x h2, by rw [e.H]; exact h3, RepVs.sub e h4, RepVs.sub e h5, h6⟩
  | .set _, v, h => by rw [RepV] at h; exact h.elim
  | .ref n, v, h => by
    rw [RepV] at h ⊢
    exact ⟨Nat.lt_of_lt_of_le h.1 e.z, by rw [e.ρ n h.1]; exact h.2⟩
  | .fn _, v, h => by rw [RepV] at h ⊢; exact h
  | .cls _, v, h => by rw [RepV] at h ⊢; exact h
  | .ty _, v, h => by rw [RepV] at h ⊢; exact h
theorem RepVs.sub {a b : Wd} (e : Sub a b) : ∀ {ds : List D} {vs : List V}, RepVs P w K L a ds vs → RepVs P w K L b ds vs
  | [], vs, h => by rw [RepVs] at h ⊢; exact h
  | d :: ds, vs, h => by
    rw [RepVs] at h ⊢
    obtain ⟨v, r, h1, h2, h3⟩ := h
    exact ⟨v, r, h1, RepV.sub e h2, RepVs.sub e h3⟩
end
theorem RepO.sub {a b : Wd} (e : Sub a b) {x : Addr} {o : MObj} (h : RepO P w K L a x o) : RepO P w K L b x o := by
  cases o with
  | lst ds => obtain ⟨vs, h1, h2, h3⟩ := h; exact ⟨vs, by rw [e.H]; exact h1, h2.sub e, h3⟩
  | dct ks vs => obtain ⟨kk, vv, h1, h2, h3, h4, h5, h6⟩ := h; exact ⟨kk, vv, by rw [e.H]; exact h1, h2.sub e, h3.sub e, h4, h5, by rw [e.H]; exact h6⟩
  | ins c fs => obtain ⟨dx, fv, h1, h2, h3, h4⟩ := h; exact ⟨dx, fv, by rw [e.H]; exact h1, h2, h3.sub e, h4⟩

/-- p is frozen -/
def Wd.frz (a : Wd) (p : Addr) : Wd := { a with Fz := fun x => a.Fz x ∨ x = p }
theorem Sub.frz (a : Wd) (p : Addr) : Sub a (a.frz p) := ⟨rfl, fun _ h => .inl h, Nat.le_refl _, fun _ _ => rfl⟩
/-- p becomes the next object of the heap -/
def Wd.num (a : Wd) (p : Addr) : Wd := { a with ρ := fun n => if n = a.z then p else a.ρ n, z := a.z + 1 }
theorem Sub.num (a : Wd) (p : Addr) : Sub a (a.num p) := ⟨rfl, fun _ h => h, Nat.le_succ _, fun n h => if_neg (Nat.ne_of_lt h)⟩
theorem WOk.frz {a : Wd} (ok : WOk a) {p : Addr} (h1 : Nt (a.H p)) (h2 : ∀ n, n < a.z → p ≠ a.ρ n) : WOk (a.frz p) :=
  ⟨fun x h => h.elim (ok.fz x) (fun e => by subst e; exact ⟨h1, h2⟩), ok.hp, ok.inj, ok.tabs⟩
theorem Ext.frz {o a : Wd} (e : Ext o a) {p : Addr} (h : ¬ Nt (o.H p)) : Ext o (a.frz p) :=
  ⟨e.z, e.ρ, e.new, fun x h => .inl (e.fz x h), fun x z => z.elim (e.fzn x) (fun q => by subst q; exact .inr h), e.keep, e.T, e.live⟩
theorem WOk.num {a : Wd} (ok : WOk a) {p : Addr} (h1 : Nt (a.H p)) (h2 : ∀ n, n < a.z → p ≠ a.ρ n) (h3 : ¬ a.Fz p) : WOk (a.num p) where
  fz := fun x h => ⟨(ok.fz x h).1, fun n hn => by
    show x ≠ if n = a.z then p else a.ρ n
    by_cases q : n = a.z
    · rw [if_pos q]; rintro rfl; exact h3 h
    · rw [if_neg q]
      have hn : n < a.z + 1 := hn
      exact (ok.fz x h).2 n (by omega)⟩
  hp := fun n hn => by
    show Nt (a.H (if n = a.z then p else a.ρ n))
    by_cases q : n = a.z
    · rw [if_pos q]; exact h1
    · rw [if_neg q]
      have hn : n < a.z + 1 := hn
      exact ok.hp n (by omega)
  inj := fun m n hm hn e => by
    have e : (if m = a.z then p else a.ρ m) = if n = a.z then p else a.ρ n := e
    have hm : m < a.z + 1 := hm
    have hn : n < a.z + 1 := hn
    by_cases q : m = a.z
    · by_cases r : n = a.z
      · omega
      · rw [if_pos q, if_neg r] at e; exact absurd e (h2 n (by omega))
    · by_cases r : n = a.z
      · rw [if_neg q, if_pos r] at e; exact absurd e.symm (h2 m (by omega))
      · rw [if_neg q, if_neg r] at e; exact ok.inj m n (by omega) (by omega) e
  tabs := ok.tabs
theorem Ext.num {o a : Wd} (e : Ext o a) {p : Addr} (h : ¬ Nt (o.H p)) : Ext o (a.num p) where
  z := Nat.le_trans e.z (Nat.le_succ _)
  ρ := fun n hn => by
    show (if n = a.z then p else a.ρ n) = _
    have := e.z
    rw [if_neg (by omega)]
    exact e.ρ n hn
  new := fun n h1 h2 => by
    show ¬ Nt (o.H (if n = a.z then p else a.ρ n))
    have h2 : n < a.z + 1 := h2
    by_cases q : n = a.z
    · rw [if_pos q]; exact h
    · rw [if_neg q]; exact e.new n h1 (by omega)
  fz := e.fz
  fzn := e.fzn
  keep := e.keep
  T := e.T
  live := e.live
theorem RepH.frz {a : Wd} {h : AH} (r : RepH P w K L a h) (p : Addr) : RepH P w K L (a.frz p) h := ⟨r.1, fun n o e => (r.2 n o e).sub (Sub.frz a p)⟩
theorem RepH.num {a : Wd} {h : AH} (r : RepH P w K L a h) {p : Addr} {o : MObj} (ro : RepO P w K L a p o) : RepH P w K L (a.num p) (h ++ [o]) := by
  refine ⟨by rw [List.length_append, r.1]; rfl, fun n u e => ?_⟩
  by_cases q : n < h.length
  · rw [List.getElem?_append_left q] at e
    have : (a.num p).ρ n = a.ρ n := if_neg (by rw [← r.1]; omega)
    rw [this]
    exact (r.2 n u e).sub (Sub.num a p)
  · rw [List.getElem?_append_right (by omega)] at e
    have hn : n = h.length := by
      have := (List.getElem?_eq_some_iff.mp e).1
      simp at this
      omega
    subst hn
    simp at e
    subst e
    have : (a.num p).ρ h.length = p := if_pos r.1
    rw [this]
    exact ro.sub (Sub.num a p)
/-- a new object, tracked, not yet anybody's -/
def Wd.lay (a : Wd) (p : Addr) (o : HO) : Wd := { a with H := upd a.H p o }
theorem Ext.lay (a : Wd) {p : Addr} {o : HO} (h : a.H p = none) : Ext a (a.lay p o) where
  z := Nat.le_refl _
  ρ := fun _ _ => rfl
  new := fun n h1 h2 => absurd (Nat.lt_of_lt_of_le h2 h1) (Nat.lt_irrefl _)
  fz := fun _ h => h
  fzn := fun _ h => .inl h
  keep := fun x hx _ => upd_ne fun e => hx.ne (by rw [e]; exact h)
  T := rfl
  live := fun x hx => by
    show Nt (upd a.H p o x)
    rw [upd_ne fun e => hx.ne (by rw [e]; exact h)]
    exact hx
theorem WOk.lay {a : Wd} (ok : WOk a) {p : Addr} {o : HO} (h : a.H p = none) (ho : ∀ ps, o ≠ .tbl ps := by exact fun _ z => nomatch z) : WOk (a.lay p o) :=
  have st : ∀ x u, a.H x = some u → upd a.H p o x = some u := fun x u e => by
    rw [upd_ne fun z => by rw [z, h] at e; cases e]; exact e
  ⟨fun x hx => ⟨by obtain ⟨u, e, n⟩ := (ok.fz x hx).1; exact ⟨u, st x u e, n⟩, (ok.fz x hx).2⟩, fun n hn => (Ext.lay a h).live _ (ok.hp n hn), ok.inj, ok.tabs.ext st⟩
theorem RepH.ext {a b : Wd} {h : AH} (e : Ext a b) (ok : WOk a) (r : RepH P w K L a h) (z : b.z = a.z) (k : ∀ n, n < a.z → b.H (a.ρ n) = a.H (a.ρ n)) : RepH P w K L b h :=
  ⟨r.1.trans z.symm, fun n o q => by
    have hn : n < a.z := by rw [← r.1]; exact (List.getElem?_eq_some_iff.mp q).1
    rw [e.ρ n hn]
    exact (r.2 n o q).ext e ok (k n hn)⟩
theorem RepH.lay {a : Wd} {h : AH} (ok : WOk a) (r : RepH P w K L a h) {p : Addr} {o : HO} (hp : a.H p = none) : RepH P w K L (a.lay p o) h :=
  r.ext (Ext.lay a hp) ok rfl fun n hn => upd_ne fun e => (ok.hp n hn).ne (by rw [e]; exact hp)
theorem lay_free {a : Wd} (ok : WOk a) {p : Addr} (hp : a.H p = none) : ¬ a.Fz p ∧ ∀ n, n < a.z → p ≠ a.ρ n :=
  ⟨fun f => (ok.fz p f).1.ne hp, fun n hn e => (ok.hp n hn).ne (by rw [← e]; exact hp)⟩
theorem paired_vs {a : Wd} : ∀ {ds : List D} {vs : List V}, RepVs P w K L a ds vs → Paired (RepP P w K L a) ds vs
  | [], _, h => by rw [h.nil_inv]; exact .nil
  | d :: ds, _, h => by
    obtain ⟨v, r, rfl, h1, h2⟩ := h.inv
    exact .cons (.inl h1) (paired_vs h2)
end

section
variable (S : Sy) (call : CallT) (W : WX)
/-- a fresh container -/
def GoodF (wd : Wd) (Q : VK) (d : D) (h : AH) : Prop :=
  ∀ p wd', Ext wd wd' → WOk wd' → RepH S.P S.w S.K S.L wd' h → Own S.P S.w S.K S.L wd' d p → ¬ Nt (wd.H p) → Q (.ref p) wd'.H
def RdF (f : F) : TE := fun σ H Q => ∃ en h wd, wd.H = H ∧ Sat S wd σ en h ∧ Post S wd (fun c d => W c d σ) (GoodF S wd Q) (evF S.L.g call f en h)
end
section
variable {X : Cx} {L : Ln} {call : CallT} {W : WX} {e : Expr} {wd wd1 : Wd} {h : AH} {Q : VK} {d : D}
theorem objD_rep {P w K} {wd : Wd} {d : D} {o : MObj} {p : Addr} (e : objD d = some o) (r : RepO P w K L wd p o) (f : wd.Fz p) : RepV P w K L wd d (.ref p) := by
  cases d with
  | lst xs =>
    cases e
    obtain ⟨vs, h1, h2, h3⟩ := r
    rw [RepV]
    exact ⟨p, vs, rfl, .inl ⟨f, .inl h1⟩, h2, h3⟩
  | dct ks vs =>
    cases e
    obtain ⟨kk, vv, h1, h2, h3, h4, h5, _⟩ := r
    rw [RepV]
    exact ⟨p, kk, vv, rfl, f, h1, h2, h3, h4, h5⟩
  | _ => cases e
theorem own_frz {P w K} {wd : Wd} {d : D} {p : Addr} (o : Own P w K L wd d p) : RepV P w K L (wd.frz p) d (.ref p) := by
  obtain ⟨⟨o, h1, h2⟩, _⟩ := o
  exact objD_rep h1 (h2.sub (Sub.frz wd p)) (.inr rfl)
/-- a fresh container, kept as a value -/
theorem rd_fr {f : F} (hf : PE X e (RdF (sy X L) call W f)) : PE X e (RdE (sy X L) call W (.fr f)) := hf.impM fun σ H Q ⟨en, h, wd, e1, st, p⟩ => by
  subst e1
  rw [evE] at p
  refine ⟨en, h, wd, rfl, st, p.mono fun d h1 g a wd1 x1 ok1 rh1 o hn => ?_⟩
  have fr := o.pl.nt
  exact g (.ref a) (wd1.frz a) (x1.frz hn) (ok1.frz fr o.2.2) (rh1.frz a) (by simp [isOwn]; exact own_frz o)
/-- .., laid into the heap -/
theorem rd_al {f : F} (hf : PE X e (RdF (sy X L) call W f)) : PE X e (RdE (sy X L) call W (.al f)) := hf.impM fun σ H Q ⟨en, h, wd, e1, st, p⟩ => by
  subst e1
  rw [evE] at p
  refine ⟨en, h, wd, rfl, st, p.bind.mono fun d h1 g a wd1 x1 ok1 rh1 o hn => ?_⟩
  obtain ⟨⟨ob, ho, hr⟩, nf, nr⟩ := id o
  rw [ho] at g
  refine g (.ref a) (wd1.num a) (x1.num hn) (ok1.num o.pl.nt nr nf) (rh1.num hr) ?_
  simp only [isOwn, Bool.false_eq_true, if_false]
  rw [RepV]
  exact ⟨by rw [rh1.1]; exact Nat.lt_succ_self _, by
    show V.ref a = V.ref (if h1.length = wd1.z then a else wd1.ρ h1.length)
    rw [if_pos rh1.1]⟩
/-- a tuple is written -/
def Es.len : Es → Nat
  | .nil => 0
  | .cons _ es => es.len + 1
theorem evEs_length {g : G} : ∀ (es : Es) {en : MEnv} {h h1 : AH} {xs : List D}, evEs g call es en h = .ok xs h1 → xs.length = es.len
  | .nil, en, h, h1, xs, e => by
    rw [evEs] at e
    cases e
    rfl
  | .cons a es, en, h, h1, xs, e => by
    rw [evEs] at e
    cases q : isOwn a en with
    | true => rw [q] at e; cases e
    | false =>
      rw [q] at e
      simp only [Bool.false_eq_true, if_false] at e
      cases e1 : evE g call a en h with
      | ok x h2 =>
        rw [e1] at e
        dsimp only [R.bind] at e
        cases e2 : evEs g call es en h2 with
        | ok ys h3 =>
          rw [e2] at e
          dsimp only at e
          cases e
          rw [List.length_cons, evEs_length es e2]
          rfl
        | exc c d h' => rw [e2] at e; cases e
        | fail => rw [e2] at e; cases e
      | exc c d h' => rw [e1] at e; cases e
      | fail => rw [e1] at e; cases e
theorem rd_tup {es : List Expr} {es' : Es} {k : Nat} {pos : Pos} (ha : PA X es (RdA (sy X L) call W es')) (hl : es'.len ≤ 1000) : PE X (.Tuple es k pos) (RdE (sy X L) call W (.tup es')) :=
  (pe_tup ha).impM fun σ H Q ⟨en, h, wd, e1, st, p⟩ => by
    subst e1
    rw [evE] at p
    refine ⟨en, h, wd, rfl, st, p.bind.monoE fun ds h1 he g vs wd1 x1 ok1 rh1 rv _ => ?_⟩
    have rv := rv rfl
    have hlen : vs.length ≤ sizeLine := by
      rw [← rv.len, evEs_length _ he, sizeLine_eq]
      omega
    refine ⟨hlen, fun a ha => ?_⟩
    have e2 := Ext.lay wd1 (o := .tup vs) ha
    have ok2 := ok1.lay (o := .tup vs) ha
    have fr := lay_free ok1 ha
    have hn : ¬ Nt (wd.H a) := fun z => (x1.live a z).ne ha
    refine g (.ref a) ((wd1.lay a (.tup vs)).frz a) ((x1.trans e2).frz hn) (ok2.frz (nt_upd (fun _ z => nomatch z)) fr.2) ((rh1.lay ok1 ha).frz a) ?_
    simp only [isOwn, Bool.false_eq_true, if_false]
    rw [RepV]
    exact ⟨a, vs, rfl, .inl ⟨.inr rfl, .inl upd_same⟩, (rv.ext e2 ok1).sub (Sub.frz _ a), by rw [evEs_length _ he]; unfold most; omega⟩
theorem rf_lst {es : List Expr} {es' : Es} {pos : Pos} (ha : PA X es (RdA (sy X L) call W es')) (hl : es'.len ≤ 1000) : PE X (.List es pos) (RdF (sy X L) call W (.lst es')) :=
  (pe_lst ha).impM fun σ H Q ⟨en, h, wd, e1, st, p⟩ => by
    subst e1
    rw [evF] at p
    refine ⟨en, h, wd, rfl, st, p.bind.monoE fun ds h1 he g vs wd1 x1 ok1 rh1 rv _ => ?_⟩
    have rv := rv rfl
    have hlen : vs.length ≤ sizeLine := by
      rw [← rv.len, evEs_length _ he, sizeLine_eq]
      omega
    refine ⟨hlen, fun a ha => ?_⟩
    have e2 := Ext.lay wd1 (o := .lst vs) ha
    have hn : ¬ Nt (wd.H a) := fun z => (x1.live a z).ne ha
    exact g a (wd1.lay a (.lst vs)) (x1.trans e2) (ok1.lay ha) (rh1.lay ok1 ha) ⟨⟨_, rfl, vs, upd_same, rv.ext e2 ok1, by rw [evEs_length _ he]; unfold most; omega⟩, lay_free ok1 ha⟩ hn
end

/-! ### calls -/
/-- a def's promise, as HandS's FnOk, where no repr runs around -/
structure FnG (P : Program) (w : World) (K : PySem.W.Frag) (mg : Str → Option Value) (base : Heap) (k : Nat) (rp : Bool) (f : Addr) (fd : FuncData) (ps : List Str) (sp : Sp) : Prop where
  len : ∀ vs H Q E, sp vs H Q E → vs.length = ps.length
  run : ∀ (A : Around) (outer : List Env) (s : Shared) (H : Hp) (args : Args) (us : List Value) (vs : List V) (Q : VK) (E : XK), Room k A → (rp = true → A.guards = some []) → Env0 P w K mg base A outer s H → BindsTo s fd args (ps.zip us) → Vals vs us → sp vs H Q E →
    codeAny (model P w) A (.call (.ref f) args) (CR (L2.CX P w) outer P w H s Q E) s
section
variable (P : Program) (w : World) (K : PySem.W.Frag) (L : Ln)
def GoodC (wd : Wd) (Q : VK) (d : D) (h : AH) : Prop := ∀ v wd', Ext wd wd' → WOk wd' → RepH P w K L wd' h → RepV P w K L wd' d v → Q v wd'.H
def PostC (wd : Wd) (E : XK) (Q : VK) : R D → Prop
  | .ok d h => GoodC P w K L wd Q d h
  | .exc c d h => ∀ wd' dx v, Ext wd wd' → WOk wd' → RepH P w K L wd' h → RepV P w K L wd' d v → wd'.H dx = some (.xd [(("value" : Str), v)]) → E (.ref (L.cad c)) (some dx) wd'.H
  | .fail => False
/-- what a call of the def f does -/
def spD (np : Nat) (call : CallT) (f : Nat) : Sp := fun vs H Q E => ∃ ds h wd, wd.H = H ∧ WOk wd ∧ wd.T = L.T ∧ RepH P w K L wd h ∧ RepVs P w K L wd ds vs ∧ ds.length = np ∧ PostC P w K L wd E Q (call f ds h)
end
section
variable {X : Cx} {L : Ln} {call : CallT} {W : WX} {k : Nat} {rp : Bool} {f C : Addr} {fd : FuncData} {ps : List Str} {sp : Sp} {x m : Str} {p pos apos : Pos} {e o : Expr} {es : List Expr} {pins : List (Addr × Obj)} {σ : L2.St} {H : Hp} {s : Shared} {Q : VK} {us : List Value} {vs : List V}
theorem run_fnG (F : FnG X.prog X.w X.K X.mg X.base k rp f fd ps sp) (hr : Room k X.A) (hg : rp = true → X.A.guards = some []) (hb : Binds X.K fd ps []) (tk : Takes X W)
    (I : Inv X pins σ H s) (r : Vals vs us) (h : sp vs H Q (fun c d => W c d σ)) : wpAny (model X.prog X.w) X.A (PySem.call (.ref f) us) (EP X pins σ Q) X.xe s := by
  have hl : (us ++ []).length = ps.length := by rw [List.append_nil, ← r.length]; exact F.len _ _ _ _ h
  have hb' := hb s us I.kIn hl
  rw [List.append_nil] at hb'
  refine wpAny_call (codeAny_mono (F.run X.A X.stack s H ⟨us, []⟩ us vs Q _ hr hg I.env0 hb' r h) fun r s' hq => ?_)
  cases r with
  | error e => exact tk e s' (XE.of_call I (fun _ _ _ z => z) hq)
  | ok fl =>
    cases fl with
    | ret u => exact I.after hq
    | next => exact False.elim hq
    | brk => exact False.elim hq
    | cont => exact False.elim hq
/-- from a state: the callee's promise -/
theorem spD_of {wd : Wd} {np f : Nat} {ds : List D} {h1 : AH} {vs : List V} {good : D → AH → Prop} {wd0 : Wd} (W' : Value → Option Addr → Hp → Prop) (ok : WOk wd) (tb : wd.T = L.T) (rh : RepH X.prog X.w X.K L wd h1) (rv : RepVs X.prog X.w X.K L wd ds vs) (hl : ds.length = np)
    (x : Ext wd0 wd) (q : Post (sy X L) wd0 W' good (call f ds h1)) (k : ∀ d h2 v wd2, good d h2 → Ext wd0 wd2 → WOk wd2 → RepH X.prog X.w X.K L wd2 h2 → RepV X.prog X.w X.K L wd2 d v → Q v wd2.H) :
    spD X.prog X.w X.K L np call f vs wd.H Q W' := by
  refine ⟨ds, h1, wd, rfl, ok, tb, rh, rv, hl, ?_⟩
  cases e : call f ds h1 with
  | ok d h2 => rw [e] at q; exact fun v wd2 x2 ok2 rh2 r2 => k d h2 v wd2 q (x.trans x2) ok2 rh2 r2
  | exc c d h2 => rw [e] at q; exact fun wd2 dx v x2 ok2 rh2 r2 hd => q wd2 dx v (x.trans x2) ok2 rh2 r2 hd
  | fail => rw [e] at q; exact q
theorem rd_call {np : Nat} {fi : Nat} {es' : Es} (F : FnG X.prog X.w X.K X.mg X.base k rp f fd ps (spD X.prog X.w X.K L np call fi)) (hr : Room k X.A) (hg : rp = true → X.A.guards = some []) (hgl : Gl X x) (hm : X.mg x = some (.ref f)) (hk : PySem.W.keepIn X.K (.ref f) = true) (hb : Binds X.K fd ps []) (tk : Takes X W)
    (ha : PA X (e :: es) (RdA (sy X L) call W es')) (hl : es'.len = np) (hdb : (x == ("__debug__" : Str)) = false) (he : starEach (e :: es) X.env = (false, eval e X.env) :: starEach es X.env) (hpl : (backTo pos (starEach es X.env)).any (·.1) = false) :
    PE X (.Call (.Name x p) (e :: es) [] pos) (RdE (sy X L) call W (.call fi es')) := by
  refine ⟨fun pins s σ H Q I q => ?_⟩
  obtain ⟨en, h, wd, e1, st, q⟩ := q
  subst e1
  rw [evE] at q
  refine wpAny_Call_Name_kw (ld_glob I hgl hm ?_ hdb)
  have g : RdA (sy X L) call W es' σ wd.H fun vs H1 => spD X.prog X.w X.K L np call fi vs H1 Q (fun c d => W c d σ) :=
    ⟨en, h, wd, rfl, st, q.bind.monoE fun ds h1 he g vs wd1 x1 ok1 rh1 rv _ => spD_of _ ok1 (x1.T.trans st.re.tb) rh1 (rv rfl) ((evEs_length _ he).trans hl) x1 g fun d h2 v wd2 g x2 ok2 rh2 r2 => g v wd2 x2 ok2 rh2 (by simp [isOwn]; exact r2)⟩
  refine PySem.W.callWith_K (h₀ := X.base) I.ok.mod.kin hk (thn (ha.run pos pins s σ _ _ I g) fun us s1 ⟨vs, H1, I1, r, q⟩ => ⟨I1.kIn, ?_⟩) he hpl
  exact run_fnG F hr hg hb tk I1 r q
theorem rd_call0 {np : Nat} {fi : Nat} (F : FnG X.prog X.w X.K X.mg X.base k rp f fd ps (spD X.prog X.w X.K L np call fi)) (hr : Room k X.A) (hg : rp = true → X.A.guards = some []) (hgl : Gl X x) (hm : X.mg x = some (.ref f)) (hk : PySem.W.keepIn X.K (.ref f) = true) (hb : Binds X.K fd ps []) (tk : Takes X W)
    (hl : 0 = np) (hdb : (x == ("__debug__" : Str)) = false) :
    PE X (.Call (.Name x p) [] [] pos) (RdE (sy X L) call W (.call fi .nil)) := by
  refine ⟨fun pins s σ H Q I q => ?_⟩
  obtain ⟨en, h, wd, e1, st, q⟩ := q
  subst e1
  rw [evE, evEs] at q
  refine wpAny_Call_Name_kw (ld_glob I hgl hm ?_ hdb)
  exact PySem.W.callWith_K0 I.kIn hk (run_fnG (us := []) F hr hg hb tk I .nil (spD_of _ st.ok st.re.tb st.rh .nil hl (Ext.refl _) q fun d h2 v wd2 g x2 ok2 rh2 r2 => g v wd2 x2 ok2 rh2 (by simp [isOwn]; exact r2)))
/-- a local name that holds a def -/
theorem mlook_ok {P w K} {wd : Wd} {n : Nat} {h : AH} {o : MObj} (rh : RepH P w K L wd h) (e : h[n]? = some o) : RepO P w K L wd (wd.ρ n) o := rh.2 n o e
/-! ### instances -/
theorem look_fv {fs : List (Nat × D)} {fv : List (Str × V)} {P w K} {wd : Wd} (hinj : ∀ i j, L.an i = L.an j → i = j) : ∀ (_ : fv.map (·.1) = fs.map (fun p => L.an p.1)) (_ : RepVs P w K L wd (fs.map (·.2)) (fv.map (·.2))) (k : Nat),
    (flook fs k = none → fv.lookup (L.an k) = none) ∧ ∀ d, flook fs k = some d → ∃ v, fv.lookup (L.an k) = some v ∧ RepV P w K L wd d v := by
  induction fs generalizing fv with
  | nil =>
    intro h1 h2 k
    have : fv = [] := by
      have := congrArg List.length h1
      simpa using this
    subst this
    exact ⟨fun _ => rfl, fun d e => by cases e⟩
  | cons p fs ih =>
    obtain ⟨i, d0⟩ := p
    intro h1 h2 k
    cases fv with
    | nil => simp at h1
    | cons q fv =>
      obtain ⟨y, v0⟩ := q
      simp only [List.map_cons, List.cons.injEq] at h1
      obtain ⟨h1, h1'⟩ := h1
      obtain ⟨v, r, e1, r1, r2⟩ := RepVs.inv h2
      simp only [List.map_cons, List.cons.injEq] at e1
      obtain ⟨e1, e2⟩ := e1
      subst e1 e2
      have h1 : y = L.an i := h1
      by_cases q : i = k
      · subst q
        have l : List.lookup (L.an i) ((y, v0) :: fv) = some v0 := by rw [h1]; simp [List.lookup]
        refine ⟨fun e => ?_, fun d e => ⟨v0, l, ?_⟩⟩
        · simp [flook] at e
        · simp [flook] at e
          subst e
          exact r1
      · have nb : (L.an k == y) = false := by
          rw [h1]
          exact beq_eq_false_iff_ne.mpr fun z => q (hinj _ _ z).symm
        have l : List.lookup (L.an k) ((y, v0) :: fv) = List.lookup (L.an k) fv := by simp only [List.lookup, nb]
        have f : flook ((i, d0) :: fs) k = flook fs k := by simp [flook, q]
        rw [l, f]
        exact ih h1' r2 k
theorem RepP.ref {P w K} {wd : Wd} {n : Nat} {v : V} (r : RepP P w K L wd (.ref n) v) : n < wd.z ∧ v = .ref (wd.ρ n) := by
  rcases r with r | ⟨p, _, ⟨⟨o, ho, _⟩, _⟩⟩
  · rw [RepV] at r; exact r
  · cases ho
theorem flook_mem : ∀ {fs : List (Nat × D)} {k : Nat} {d : D}, flook fs k = some d → ∃ p ∈ fs, p.1 = k
  | [], k, d, e => by cases e
  | (i, d0) :: fs, k, d, e => by
    by_cases q : i = k
    · exact ⟨(i, d0), List.mem_cons_self, q⟩
    · simp [flook, q] at e
      obtain ⟨p, h1, h2⟩ := flook_mem e
      exact ⟨p, List.mem_cons_of_mem _ h1, h2⟩
theorem rd_fld {a' : E} {i : Nat} (ha : PE X e (RdE (sy X L) call W a')) (hi : ∀ i j, L.an i = L.an j → i = j) (hc : ∀ c, c < L.g.cls.length → Cls X.K (L.cad c))
    (hb : attributeBase e (L.an i) X.env (eval e X.env) = eval e X.env) :
    PE X (.Attribute e (L.an i) pos) (RdE (sy X L) call W (.fld a' i)) := (pe_fld ha hb).impM fun σ H Q ⟨en, h, wd, e1, st, q⟩ => by
  subst e1
  rw [evE] at q
  refine rdE_step st q.bind fun d h1 v wd1 g x1 st1 r _ => ?_
  cases d with
  | ref n =>
    dsimp only at g
    cases q1 : h1[n]? with
    | none => rw [q1] at g; exact g.elim
    | some ob =>
      rw [q1] at g
      cases ob with
      | ins c fs =>
        obtain ⟨y, hy, g⟩ := g.ofO
        obtain ⟨dx, fv, a1, a2, a3, a4, a5⟩ := mlook_ok st1.rh q1
        obtain ⟨u, l, ru⟩ := (look_fv hi a2 a3 i).2 y hy
        obtain ⟨pr, hp1, hp2⟩ := flook_mem hy
        refine ⟨wd1.ρ n, L.cad c, dx, fv, u, r.ref.2, a1, hc c a4, hp2 ▸ a5 pr hp1, l, g u wd1 x1 st1.ok st1.rh ?_⟩
        simp only [isOwn, Bool.false_eq_true, if_false]
        exact ru
      | lst _ => exact g.elim
      | dct _ _ => exact g.elim
  | _ => exact g.elim
theorem methF_of {n f : Nat} {h1 : AH} {x : D} {m : Nat} (p : methF L.g x m h1 = some (n, f)) :
    ∃ c fs cl, x = .ref n ∧ h1[n]? = some (.ins c fs) ∧ L.g.cls[c]? = some cl ∧ mlook cl.meths m = some f ∧ flook fs m = none := by
  unfold methF at p
  cases x with
  | ref n =>
    dsimp only at p
    cases q1 : h1[n]? with
    | none => rw [q1] at p; cases p
    | some ob =>
      rw [q1] at p
      cases ob with
      | ins c fs =>
        dsimp only at p
        cases q2 : L.g.cls[c]? with
        | none => rw [q2] at p; cases p
        | some cl =>
          rw [q2] at p
          dsimp only at p
          cases q3 : mlook cl.meths m with
          | none => rw [q3] at p; cases p
          | some f =>
            rw [q3] at p
            cases q4 : flook fs m with
            | some d => rw [q4] at p; cases p
            | none => rw [q4] at p; cases p; exact ⟨c, fs, cl, rfl, q1, q2, q3, q4⟩
      | lst _ => cases p
      | dct _ _ => cases p
  | _ => cases p
end
/-- what is known of the defs and classes, at a level -/
structure Lib (X : Cx) (L : Ln) (call : CallT) (k : Nat) where
  fd : Nat → FuncData
  ps : Nat → List Str
  fns : ∀ f fn, L.g.fns[f]? = some fn → FnG X.prog X.w X.K X.mg X.base k (L.rp f) (L.fad f) (fd f) (ps f) (spD X.prog X.w X.K L fn.np call f) ∧ Binds X.K (fd f) (ps f) [] ∧ PySem.W.keepIn X.K (.ref (L.fad f)) = true
  dead : ∀ f ds h, L.g.fns[f]? = none → call f ds h = .fail
  np : ∀ f fn ds h, L.g.fns[f]? = some fn → ds.length ≠ fn.np → call f ds h = .fail
  cls : ∀ c, c < L.g.cls.length → Cls X.K (L.cad c)
  meth : ∀ c cl m f, L.g.cls[c]? = some cl → mlook cl.meths m = some f → Meth X.K (L.cad c) (L.an m) (L.fad f)
  init : ∀ c cl f, L.g.cls[c]? = some cl → cl.init = some f → Mk X.K (L.cad c) (L.fad f)
  noat : ∀ c k, noMeth L.g c k = true → NoAttr X.K (L.cad c) (L.an k)
  inj : ∀ i j, L.an i = L.an j → i = j
  mrp : ∀ (c : Nat) (cl : Cl) (m f : Nat), L.g.cls[c]? = some cl → mlook cl.meths m = some f → L.rp f = false
  irp : ∀ (c : Nat) (cl : Cl) (f : Nat), L.g.cls[c]? = some cl → cl.init = some f → L.rp f = false
section
variable {X : Cx} {L : Ln} {call : CallT} {W : WX} {k : Nat} {x m : Str} {p pos apos : Pos} {e o : Expr} {es : List Expr}
theorem Lib.np' (B : Lib X L call k) {f : Nat} {ds : List D} {h : AH} {wd : Wd} {good : D → AH → Prop} {W' : Value → Option Addr → Hp → Prop} (p : Post (sy X L) wd W' good (call f ds h)) : ∃ fn, L.g.fns[f]? = some fn ∧ ds.length = fn.np := by
  cases q : L.g.fns[f]? with
  | none => rw [B.dead f ds h q] at p; exact p.elim
  | some fn =>
    refine ⟨fn, rfl, Classical.byContradiction fun z => ?_⟩
    rw [B.np f fn ds h q z] at p
    exact p.elim
/-- o.m(e, ..) -/
theorem rd_meth {o' : E} {mi : Nat} {es' : Es} {pl : Sem Bool} (B : Lib X L call k) (hr : Room k X.A) (tk : Takes X W) (ho : PE X o (RdE (sy X L) call W o')) (ha : PA X (e :: es) (RdA (sy X L) call W es'))
    (hst : starEach (e :: es) X.env = (false, eval e X.env) :: starEach es X.env) (hpl : (backTo pos (starEach es X.env)).any (·.1) = false)
    (ht : eval (.Call (.Attribute o (L.an mi) apos) (e :: es) [] pos) X.env = (do
      let ov ← eval o X.env
      standAt apos.atName
      let (f, first) ← holding [ov] (getMethod ov (L.an mi) pl)
      callWith pos f first (backTo pos (starEach (e :: es) X.env)) (backToKw pos (keywordEach [] X.env)))) :
    PE X (.Call (.Attribute o (L.an mi) apos) (e :: es) [] pos) (RdE (sy X L) call W (.meth o' mi es')) := by
  refine ⟨fun pins s σ H Q I q => ?_⟩
  obtain ⟨en, h, wd, e1, st, q⟩ := q
  subst e1
  rw [evE] at q
  refine PySem.W.methodCall_KW (pl := pl) (thn (ho.run pins s σ _ (fun x H1 => ∃ n f c fs cl h1 wd1, wd1.H = H1 ∧ Ext wd wd1 ∧ Sat (sy X L) wd1 σ en h1 ∧ x = .ref (wd1.ρ n) ∧ h1[n]? = some (.ins c fs) ∧ L.g.cls[c]? = some cl ∧ mlook cl.meths mi = some f ∧ flook fs mi = none ∧
      Post (sy X L) wd1 (fun c d => W c d σ) (Good (sy X L) wd1 false Q) ((evEs L.g call es' en h1).bind fun xs h => call f (.ref n :: xs) h)) I ?_) fun u s1 ⟨x, H1, I1, rx, n, f, c, fs, cl, h1, wd1, eH, x1, st1, ex, q1, q2, q3, q4, q⟩ => ?_) ht
  · refine rdE_step st q.bind fun d h1 v wd1 g x1 st1 r _ => ?_
    cases e : methF L.g d mi h1 with
    | none => rw [e] at g; exact g.elim
    | some pr =>
      obtain ⟨n, f⟩ := pr
      rw [e] at g
      obtain ⟨c, fs, cl, ed, a1, a2, a3, a4⟩ := methF_of e
      subst ed
      exact ⟨n, f, c, fs, cl, h1, wd1, rfl, x1, st1, r.ref.2, a1, a2, a3, a4, Post.ext g x1 fun d h g => Good.ext g x1⟩
  subst eH
  subst ex
  obtain rfl : u = Value.ref (wd1.ρ n) := rx
  obtain ⟨dx, fv, a1, a2, a3, a4, a5⟩ := mlook_ok st1.rh q1
  refine getmeth_ok I1 a1 (B.cls c a4) (B.meth c cl mi f q2 q3) ((look_fv B.inj a2 a3 mi).1 q4) ?_
  have hz : n < wd1.z := by rw [← st1.rh.1]; exact (List.getElem?_eq_some_iff.mp q1).1
  cases qf : L.g.fns[f]? with
  | none =>
    -- never called
    have g : RdA (sy X L) call W es' σ wd1.H fun vs H1 => False := ⟨en, h1, wd1, rfl, st1, q.bind.mono fun ds h2 g => by rw [B.dead f _ _ qf] at g; exact g.elim⟩
    exact PySem.W.callWith_K (first := [.ref (wd1.ρ n)]) (h₀ := X.base) I.ok.mod.kin (B.meth c cl mi f q2 q3).kp (thn (ha.run pos pins s1 σ _ _ I1 g) fun us s2 ⟨vs, H2, I2, r, z⟩ => z.elim) hst hpl
  | some fn =>
    obtain ⟨F, hb, hk⟩ := B.fns f fn qf
    have g : RdA (sy X L) call W es' σ wd1.H fun vs H1 => spD X.prog X.w X.K L fn.np call f (.ref (wd1.ρ n) :: vs) H1 Q (fun c d => W c d σ) :=
      ⟨en, h1, wd1, rfl, st1, q.bind.mono fun ds h2 g vs wd2 x2 ok2 rh2 rv _ => by
        have rv2 : RepVs X.prog X.w X.K L wd2 (.ref n :: ds) (.ref (wd1.ρ n) :: vs) := .cons (by rw [RepV]; exact ⟨Nat.lt_of_lt_of_le hz x2.z, by rw [x2.ρ n hz]⟩) (rv rfl)
        obtain ⟨fn', e1, e2⟩ := B.np' g
        rw [qf] at e1; cases e1
        exact spD_of _ ok2 (x2.T.trans st1.re.tb) rh2 rv2 e2 x2 g fun d h3 v wd3 g x3 ok3 rh3 r3 => g v wd3 x3 ok3 rh3 (by simp; exact r3)⟩
    refine PySem.W.callWith_K (first := [.ref (wd1.ρ n)]) (h₀ := X.base) I.ok.mod.kin (B.meth c cl mi f q2 q3).kp (thn (ha.run pos pins s1 σ _ _ I1 g) fun us s2 ⟨vs, H2, I2, r, qz⟩ => ⟨I2.kIn, ?_⟩) hst hpl
    exact run_fnG (us := .ref (wd1.ρ n) :: us) (vs := .ref (wd1.ρ n) :: vs) F hr (fun z => by rw [B.mrp c cl mi f q2 q3] at z; cases z) hb tk I2 (.cons rfl r) qz
theorem rd_meth0 {o' : E} {mi : Nat} {pl : Sem Bool} (B : Lib X L call k) (hr : Room k X.A) (tk : Takes X W) (ho : PE X o (RdE (sy X L) call W o'))
    (ht : eval (.Call (.Attribute o (L.an mi) apos) [] [] pos) X.env = (do
      let ov ← eval o X.env
      standAt apos.atName
      let (f, first) ← holding [ov] (getMethod ov (L.an mi) pl)
      callWith pos f first (backTo pos (starEach [] X.env)) (backToKw pos (keywordEach [] X.env)))) :
    PE X (.Call (.Attribute o (L.an mi) apos) [] [] pos) (RdE (sy X L) call W (.meth o' mi .nil)) := by
  refine ⟨fun pins s σ H Q I q => ?_⟩
  obtain ⟨en, h, wd, e1, st, q⟩ := q
  subst e1
  rw [evE] at q
  refine PySem.W.methodCall_KW (pl := pl) (thn (ho.run pins s σ _ (fun x H1 => ∃ n f c fs cl h1 wd1, wd1.H = H1 ∧ Ext wd wd1 ∧ Sat (sy X L) wd1 σ en h1 ∧ x = .ref (wd1.ρ n) ∧ h1[n]? = some (.ins c fs) ∧ L.g.cls[c]? = some cl ∧ mlook cl.meths mi = some f ∧ flook fs mi = none ∧
      Post (sy X L) wd1 (fun c d => W c d σ) (Good (sy X L) wd1 false Q) (call f [.ref n] h1)) I ?_) fun u s1 ⟨x, H1, I1, rx, n, f, c, fs, cl, h1, wd1, eH, x1, st1, ex, q1, q2, q3, q4, q⟩ => ?_) ht
  · refine rdE_step st q.bind fun d h1 v wd1 g x1 st1 r _ => ?_
    cases e : methF L.g d mi h1 with
    | none => rw [e] at g; exact g.elim
    | some pr =>
      obtain ⟨n, f⟩ := pr
      rw [e, evEs] at g
      obtain ⟨c, fs, cl, ed, a1, a2, a3, a4⟩ := methF_of e
      subst ed
      exact ⟨n, f, c, fs, cl, h1, wd1, rfl, x1, st1, r.ref.2, a1, a2, a3, a4, Post.ext g x1 fun d h g => Good.ext g x1⟩
  subst eH
  subst ex
  obtain rfl : u = Value.ref (wd1.ρ n) := rx
  obtain ⟨dx, fv, a1, a2, a3, a4, a5⟩ := mlook_ok st1.rh q1
  refine getmeth_ok I1 a1 (B.cls c a4) (B.meth c cl mi f q2 q3) ((look_fv B.inj a2 a3 mi).1 q4) ?_
  have hz : n < wd1.z := by rw [← st1.rh.1]; exact (List.getElem?_eq_some_iff.mp q1).1
  obtain ⟨fn, qf, e2⟩ := B.np' q
  obtain ⟨F, hb, hk⟩ := B.fns f fn qf
  have rv2 : RepVs X.prog X.w X.K L wd1 [.ref n] [.ref (wd1.ρ n)] := .cons (by rw [RepV]; exact ⟨hz, rfl⟩) .nil
  exact PySem.W.callWith_K0 (first := [.ref (wd1.ρ n)]) I1.kIn (B.meth c cl mi f q2 q3).kp (run_fnG (us := [.ref (wd1.ρ n)]) (vs := [.ref (wd1.ρ n)]) F hr (fun z => by rw [B.mrp c cl mi f q2 q3] at z; cases z) hb tk I1 (.cons rfl .nil)
    (spD_of _ st1.ok st1.re.tb st1.rh rv2 e2 (Ext.refl _) q fun d h3 v wd3 g x3 ok3 rh3 r3 => g v wd3 x3 ok3 rh3 (by simp; exact r3)))

/-! ### C(..) -/
theorem under_guards {A : Around} {C : Addr} {us : List Value} {kw : List (Str × Value)} (h : A.guards = some []) : (A.under (.builtin "type.__call__" ⟨.ref C :: us, kw⟩)).guards = some [] := by
  obtain ⟨hd, d, fr, gs, u⟩ := A
  subst h
  first | rfl | simp [Around.under, pushGuards, Code.guards, Code.isGuard, guardIds]
theorem run_makeG {pins : List (Addr × Obj)} {σ : L2.St} {H : Hp} {s : Shared} {Q : VK} {us : List Value} {vs : List V} {C f : Addr} {rp : Bool} {fd : FuncData} {ps : List Str} {sp : Sp} (M : Mk X.K C f) (F : FnG X.prog X.w X.K X.mg X.base k rp f fd ps sp) (hr : Room (k + 1) X.A) (hg : rp = true → X.A.guards = some []) (hb : Binds X.K fd ps [])
    (tk : Takes X W) (I : Inv X pins σ H s) (r : Vals vs us)
    (h : ∀ x dx, H x = none → H dx = none → dx ≠ x → sp (.ref x :: vs) (upd (upd H dx (.own x)) x (.ins C dx [])) (fun v H2 => v = .non ∧ Q (.ref x) H2) (fun c d => W c d σ)) :
    wpAny (model X.prog X.w) X.A (PySem.call (.ref C) us) (EP X pins σ Q) X.xe s := by
  have hq := h (s.heap.objs.size + 1) s.heap.objs.size (I.hok.fresh (Nat.le_succ _)) (I.hok.fresh (Nat.le_refl _)) (Nat.ne_of_lt (Nat.lt_succ_self _))
  have I2 := Inv.made (C := C) I
  have r2 : Vals (V.ref (s.heap.objs.size + 1) :: vs) (Value.ref (s.heap.objs.size + 1) :: us) := .cons rfl r
  have hl : (Value.ref (s.heap.objs.size + 1) :: us ++ []).length = ps.length := by
    have e := r2.length
    rw [F.len _ _ _ _ hq] at e
    rw [List.append_nil]
    exact e.symm
  have hb' := hb _ (Value.ref (s.heap.objs.size + 1) :: us) I2.kIn hl
  rw [List.append_nil] at hb'
  refine wpAny_call (make_map (f := f) I.kIn M.makes M.init (beq_iff_eq.mp M.fn) (codeAny_mono (F.run _ X.stack _ _ ⟨Value.ref (s.heap.objs.size + 1) :: us, []⟩ (Value.ref (s.heap.objs.size + 1) :: us) _ _ _ (hr.make C us []) (fun z => under_guards (hg z))
    (I2.env0.make C us []) hb' r2 hq) fun r s' hq' => ?_))
  cases r with
  | error e => exact tk e s' (XE.of_call I2 (fun _ _ _ z => z) hq')
  | ok fl =>
    cases fl with
    | ret u =>
      obtain ⟨v, H', I3, rv, ev, q3⟩ := I2.after hq'
      subst ev
      exact ⟨rv, ⟨V.ref (s.heap.objs.size + 1), H', I3, rfl, q3⟩⟩
    | next => exact False.elim hq'
    | brk => exact False.elim hq'
    | cont => exact False.elim hq'
theorem new_of {c : Nat} {h1 : AH} {ds : List D} {wd : Wd} {good : D → AH → Prop} {W' : Value → Option Addr → Hp → Prop} (p : Post (sy X L) wd W' good (newD L.g call c ds h1)) :
    ∃ cl f, L.g.cls[c]? = some cl ∧ cl.init = some f ∧ Post (sy X L) wd W' (fun d h => d = .non ∧ good (.ref h1.length) h) (call f (.ref h1.length :: ds) (h1 ++ [.ins c []])) := by
  unfold newD at p
  cases q1 : L.g.cls[c]? with
  | none => rw [q1] at p; exact p.elim
  | some cl =>
    rw [q1] at p
    dsimp only at p
    cases q2 : cl.init with
    | none => rw [q2] at p; exact p.elim
    | some f =>
      rw [q2] at p
      dsimp only at p
      refine ⟨cl, f, rfl, q2, ?_⟩
      cases e : call f (.ref h1.length :: ds) (h1 ++ [.ins c []]) with
      | ok d h2 =>
        rw [e] at p
        cases d with
        | non => exact ⟨rfl, p⟩
        | _ => exact p.elim
      | exc c d h2 => rw [e] at p; exact p
      | fail => rw [e] at p; exact p
/-- the new instance in the world -/
theorem new_sp {c : Nat} {h1 : AH} {ds : List D} {vs : List V} {wd wd0 : Wd} {Q : VK} {good : D → AH → Prop} (B : Lib X L call k) (W' : Value → Option Addr → Hp → Prop) (ok : WOk wd) (tb : wd.T = L.T) (rh : RepH X.prog X.w X.K L wd h1) (rv : RepVs X.prog X.w X.K L wd ds vs) (x0 : Ext wd0 wd)
    (p : Post (sy X L) wd0 W' good (newD L.g call c ds h1)) (kk : ∀ d h2 v wd2, good d h2 → Ext wd0 wd2 → WOk wd2 → RepH X.prog X.w X.K L wd2 h2 → RepV X.prog X.w X.K L wd2 d v → Q v wd2.H) :
    ∃ cl f fn, L.g.cls[c]? = some cl ∧ cl.init = some f ∧ L.g.fns[f]? = some fn ∧ ∀ x dx, wd.H x = none → wd.H dx = none → dx ≠ x →
      spD X.prog X.w X.K L fn.np call f (.ref x :: vs) (upd (upd wd.H dx (.own x)) x (.ins (L.cad c) dx [])) (fun v H2 => v = .non ∧ Q (.ref x) H2) W' := by
  obtain ⟨cl, f, q1, q2, p⟩ := new_of p
  obtain ⟨fn, qf, e2⟩ := B.np' p
  refine ⟨cl, f, fn, q1, q2, qf, fun x dx nx ndx ne => ?_⟩
  have hc : c < L.g.cls.length := (List.getElem?_eq_some_iff.mp q1).1
  have xa := Ext.lay wd (o := .own x) ndx
  have oka := ok.lay (o := .own x) ndx
  have nx2 : (wd.lay dx (.own x)).H x = none := by
    show upd wd.H dx _ x = none
    rw [upd_ne (Ne.symm ne)]; exact nx
  have xb := xa.trans (Ext.lay (wd.lay dx (.own x)) (o := .ins (L.cad c) dx []) nx2)
  have okb := oka.lay (o := .ins (L.cad c) dx []) nx2
  have fr := lay_free oka nx2
  have rhb := (rh.lay ok (o := .own x) ndx).lay oka (o := .ins (L.cad c) dx []) nx2
  have ro : RepO X.prog X.w X.K L ((wd.lay dx (.own x)).lay x (.ins (L.cad c) dx [])) x (.ins c []) :=
    ⟨dx, [], upd_same, rfl, .nil, hc, fun _ z => nomatch z⟩
  have there := ro.pl.nt
  have okc := okb.num there fr.2 fr.1
  have xc := (x0.trans xb).num (fun z => ((x0.trans xa).live x z).ne nx2)
  have rhc := rhb.num ro
  have rv1 := (rv.ext xb ok).sub (Sub.num _ x)
  have zl : h1.length = wd.z := rh.1
  have rvc : RepVs X.prog X.w X.K L (((wd.lay dx (.own x)).lay x (.ins (L.cad c) dx [])).num x) (.ref h1.length :: ds) (.ref x :: vs) := .cons (by
    rw [RepV]
    refine ⟨by rw [zl]; exact Nat.lt_succ_self _, ?_⟩
    show V.ref x = V.ref (if h1.length = wd.z then x else wd.ρ h1.length)
    rw [if_pos zl]) rv1
  refine spD_of (wd := ((wd.lay dx (.own x)).lay x (.ins (L.cad c) dx [])).num x) (wd0 := ((wd.lay dx (.own x)).lay x (.ins (L.cad c) dx [])).num x) W' okc tb rhc rvc e2 (Ext.refl _) (Post.ext p xc fun d h g => g) fun d h3 v wd3 g x3 ok3 rh3 r3 => ?_
  obtain ⟨rfl, g⟩ := g
  rw [RepV] at r3
  refine ⟨r3, kk _ _ _ wd3 g (xc.trans x3) ok3 rh3 ?_⟩
  rw [RepV]
  have hz : h1.length < (((wd.lay dx (.own x)).lay x (.ins (L.cad c) dx [])).num x).z := by
    rw [zl]; exact Nat.lt_succ_self _
  refine ⟨Nat.lt_of_lt_of_le hz x3.z, ?_⟩
  rw [x3.ρ _ hz]
  show V.ref x = V.ref (if h1.length = wd.z then x else wd.ρ h1.length)
  rw [if_pos zl]
theorem rd_new {c : Nat} {es' : Es} (B : Lib X L call k) (hr : Room (k + 1) X.A) (tk : Takes X W) (hgl : Gl X x) (hm : X.mg x = some (.ref (L.cad c))) (hk : PySem.W.keepIn X.K (.ref (L.cad c)) = true)
    (ha : PA X (e :: es) (RdA (sy X L) call W es')) (hdb : (x == ("__debug__" : Str)) = false) (he : starEach (e :: es) X.env = (false, eval e X.env) :: starEach es X.env) (hpl : (backTo pos (starEach es X.env)).any (·.1) = false) :
    PE X (.Call (.Name x p) (e :: es) [] pos) (RdE (sy X L) call W (.new c es')) := by
  refine ⟨fun pins s σ H Q I q => ?_⟩
  obtain ⟨en, h, wd, e1, st, q⟩ := q
  subst e1
  rw [evE] at q
  refine wpAny_Call_Name_kw (ld_glob I hgl hm ?_ hdb)
  have g : RdA (sy X L) call W es' σ wd.H fun vs H1 => ∃ cl f fn, L.g.cls[c]? = some cl ∧ cl.init = some f ∧ L.g.fns[f]? = some fn ∧ ∀ x dx, H1 x = none → H1 dx = none → dx ≠ x →
      spD X.prog X.w X.K L fn.np call f (.ref x :: vs) (upd (upd H1 dx (.own x)) x (.ins (L.cad c) dx [])) (fun v H2 => v = .non ∧ Q (.ref x) H2) (fun c d => W c d σ) :=
    ⟨en, h, wd, rfl, st, q.bind.mono fun ds h1 g vs wd1 x1 ok1 rh1 rv _ => new_sp B _ ok1 (x1.T.trans st.re.tb) rh1 (rv rfl) x1 g fun d h2 v wd2 g x2 ok2 rh2 r2 => g v wd2 x2 ok2 rh2 (by simp [isOwn]; exact r2)⟩
  refine PySem.W.callWith_K (h₀ := X.base) I.ok.mod.kin hk (thn (ha.run pos pins s σ _ _ I g) fun us s1 ⟨vs, H1, I1, r, cl, f, fn, q1, q2, qf, q⟩ => ⟨I1.kIn, ?_⟩) he hpl
  obtain ⟨F, hb, _⟩ := B.fns f fn qf
  exact run_makeG (B.init c cl f q1 q2) F hr (fun z => by rw [B.irp c cl f q1 q2] at z; cases z) hb tk I1 r q
theorem rd_new0 {c : Nat} (B : Lib X L call k) (hr : Room (k + 1) X.A) (tk : Takes X W) (hgl : Gl X x) (hm : X.mg x = some (.ref (L.cad c))) (hk : PySem.W.keepIn X.K (.ref (L.cad c)) = true)
    (hdb : (x == ("__debug__" : Str)) = false) :
    PE X (.Call (.Name x p) [] [] pos) (RdE (sy X L) call W (.new c .nil)) := by
  refine ⟨fun pins s σ H Q I q => ?_⟩
  obtain ⟨en, h, wd, e1, st, q⟩ := q
  subst e1
  rw [evE, evEs] at q
  refine wpAny_Call_Name_kw (ld_glob I hgl hm ?_ hdb)
  obtain ⟨cl, f, fn, q1, q2, qf, q⟩ := new_sp (Q := Q) B _ st.ok st.re.tb st.rh .nil (Ext.refl _) q fun d h2 v wd2 g x2 ok2 rh2 r2 => g v wd2 x2 ok2 rh2 (by simp [isOwn]; exact r2)
  obtain ⟨F, hb, _⟩ := B.fns f fn qf
  exact PySem.W.callWith_K0 I.kIn hk (run_makeG (us := []) (B.init c cl f q1 q2) F hr (fun z => by rw [B.irp c cl f q1 q2] at z; cases z) hb tk I .nil q)
end
end Mi
end
section
set_option Elab.async false
set_option linter.all false
set_option maxRecDepth 100000
set_option maxHeartbeats 4000000
/-! What is walked: lists, tuples, texts, ranges, enumerate, zip. -/
namespace Mi
open PySem L2
/-! ### enumerate over a tuple -/
section
open PySem.W PySem.Calls PyProof.Rows
theorem meets_enumerate_newT (t : Addr) (items : Array Value) :
    Meets (Builtin.«enumerate.__new__» ⟨[.type "enumerate", .ref t], []⟩) (fun _ R s => s.heap.IsTuple t items ∧
      R (.ok (.ret (.ref (s.heap.push { cls := .type "tuple_iterator", data := .fields #[.ref t, .int 0 0] }).objs.size)))
        { s with heap := (s.heap.push { cls := .type "tuple_iterator", data := .fields #[.ref t, .int 0 0] }).push { cls := .type "enumerate", data := .fields #[.none, .bool false, .ref s.heap.objs.size, rawInt 0, .none, .none] } }) :=
  .of_wp fun prog w A R s h => by
    obtain ⟨hp, g, d, tk, os⟩ := s; obtain ⟨hl, h⟩ := h
    have hsub := sub_enumerate
    have q1 : ∀ {A' : Around} {E : Value → Shared → Prop} {Q : Value → Shared → Prop}, Q (.ref hp.objs.size) ⟨hp.push { cls := .type "tuple_iterator", data := .fields #[.ref t, .int 0 0] }, g, d, tk, os⟩ → wpAny (model prog w) A' (pyIter (.ref t)) Q E ⟨hp, g, d, tk, os⟩ :=
      fun q => wpAny_pyIter_tuple hl q
    wp_walk using q1
    refine wpAny_stack_any fun st => wpAny_pure ?_
    split
    · rename_i c _ _ _ _ _
      cases (c == Value.type "enumerate")
      · wp_walk using q1
        exact ⟨_, rfl, h⟩
      · wp_walk using q1
        exact ⟨_, rfl, h⟩
    · wp_walk using q1
      exact ⟨_, rfl, h⟩
theorem call_enumerate_tuple {prog : Program} {w : World} {A : Around} {E : Value → Shared → Prop} {s : Shared} {t : Addr} {items : Array Value} {Q : Value → Shared → Prop} (hL : s.heap.IsTuple t items)
    (h : ∀ h', IsEnum h' (s.heap.objs.size + 1) s.heap.objs.size 0 .none → h'.IsTupleIter s.heap.objs.size t 0 → h'.objs.size = s.heap.objs.size + 2 →
      (∀ b o, s.heap.get? b = some o → h'.get? b = some o) → Q (.ref (s.heap.objs.size + 1)) { s with heap := h' }) :
    wpAny (model prog w) A (PySem.call (.type "enumerate") [.ref t]) Q E s := by
  refine callType_new F.called_enumerate (by decide) (F.typeCall_enumerate_1 _) (F.newCall_enumerate_1 _) (fun obj => F.args_object_init_2 obj _) F.entry_enumerate_new
    (meets_enumerate_newT t items) ⟨hL, ?_⟩
  have hz : (s.heap.push { cls := .type "tuple_iterator", data := .fields #[.ref t, .int 0 0] }).objs.size = s.heap.objs.size + 1 := Heap.size_push ..
  show _ ∧ _
  rw [hz]
  have he : IsEnum ((s.heap.push { cls := .type "tuple_iterator", data := .fields #[.ref t, .int 0 0] }).push
      { cls := .type "enumerate", data := .fields #[.none, .bool false, .ref s.heap.objs.size, rawInt 0, .none, .none] }) (s.heap.objs.size + 1) s.heap.objs.size 0 .none := by
    have := Heap.get?_push_size (s.heap.push { cls := .type "tuple_iterator", data := .fields #[.ref t, .int 0 0] })
      (o := { cls := .type "enumerate", data := .fields #[.none, .bool false, .ref s.heap.objs.size, rawInt 0, .none, .none] }) rfl
    rw [hz] at this; exact this
  refine ⟨⟨_, he, rfl⟩, h _ he ⟨_, Heap.get?_push_of_some _ (Heap.get?_push_size _ rfl), rfl, rfl⟩ (by rw [Heap.size_push, hz]) fun b o x => Heap.get?_push_of_some _ (Heap.get?_push_of_some _ x)⟩
end
/-- the tuple at a, each item in a new pair -/
def IteT (K : PySem.W.Frag) (a : Addr) : It :=
  ⟨fun i H => ∃ (xs : List V) (x : V), SqT K H a xs ∧ xs[i]? = some x, fun i H v H' => ∃ T x, v = .ref T ∧ H T = none ∧ H' = upd H T (.tup [.int (i : Nat), x]) ∧ ∀ xs, SqT K H a xs → xs[i]? = some x, fun i H => ∃ xs : List V, SqT K H a xs ∧ xs.length = i⟩
theorem turn_enumT {P : Program} {w : World} {K : PySem.W.Frag} {elts : List Expr} {kk : Nat} {tpos : Pos} (a e it : Addr) :
    Turn P w K (.Tuple elts kk tpos) (IteT K a) [e, it] e (fun i h => (∃ old, IsEnum h e it ((i : Nat) : Int) old) ∧ h.IsTupleIter it a i ∧ e ≠ it ∧ a ≠ it ∧ a ≠ e) where
  mem := by simp
  obj := fun i h st b hb => by
    obtain ⟨⟨old, he⟩, ⟨o, ho, hc, hd⟩, _⟩ := st
    have e' : b = e ∨ b = it := by simpa using hb
    rcases e' with z | z
    · rw [z]; exact ⟨_, he, fun v q => nomatch q⟩
    · rw [z]; exact ⟨o, ho, fun v q => by rw [hd] at q; cases q⟩
  keep := fun i h h' st k => let ⟨⟨old, he⟩, hi, hne⟩ := st; ⟨⟨old, k e (by simp) _ he⟩, hi.at fun o q => k it (by simp) o q, hne⟩
  item := by
    intro X hP hw hK hc i pins s σ H E I hf st hg
    subst hP hw hK
    obtain ⟨⟨old, he⟩, hit, hne, nai, nae⟩ := st
    obtain ⟨xs, x, hq, hx⟩ := hg
    obtain ⟨its, rv, p, hz⟩ := I.tuple hq
    obtain ⟨u, hu, ru⟩ := rv.get hx
    have hel : e < s.heap.objs.size := Heap.lt_size he
    have hil : it < s.heap.objs.size := by obtain ⟨_, q, _⟩ := hit; exact Heap.lt_size q
    have pt : s.heap.IsTuple a its.toArray := p
    have hlt : i < its.toArray.size := by
      have := (List.getElem?_eq_some_iff.mp hu).1
      simpa using this
    refine wpAny_pyNext_enum_itemD (Draws.tuple (A := X.A.in1) (I.ok.hd hc) it a nai its.toArray) he ⟨hit, pt⟩ hlt hne (by simp; exact ⟨hne, Ne.symm nae⟩) fun y h' tk hy ho hit' hT hsz hk => ?_
    have hy : its.toArray[i]? = some y := hy
    have : y = u := by
      have e1 : its.toArray[i]? = some u := by simpa using hu
      rw [hy] at e1; exact Option.some.inj e1
    subst this
    refine ⟨_, rfl, PySem.wpAny_letOwnedTupleGo_enum (s := { s with heap := h', toks := tk + 1 }) ho fun h'' he' sb => ?_⟩
    have hT2 : h''.get? s.heap.objs.size = some { cls := .type "tuple", data := .seq #[.int i tk, y] } := (sb.2 _ (Nat.ne_of_gt hel)).trans hT
    have new : ObjOk X.prog X.w (upd H s.heap.objs.size (.tup [.int (i : Nat), x])) h'' s.heap.objs.size (.tup [.int (i : Nat), x]) :=
      ⟨by show 2 ≤ sizeLine; decide, [.int i tk, y], .cons ⟨_, rfl⟩ (.cons ru .nil), ⟨_, hT2, rfl, _, rfl⟩⟩
    have I1 : Inv X pins σ (upd H s.heap.objs.size (.tup [.int (i : Nat), x])) { s with heap := h'', toks := tk + 1 } :=
      I.turnedNew (ch := [e, it]) (fun b ob hb q => (sb.2 b (fun z => hb (by simp [z]))).trans (hk b ob (fun z => hb (by simp [z])) (fun z => hb (by simp [z])) q)) hf (Nat.le_refl _) new
    refine ⟨.ref s.heap.objs.size, _, I1, rfl, ⟨_, x, rfl, I.hok.fresh (Nat.le_refl _), rfl, fun ys hy => by rw [I.tuple_inj hy hq]; exact hx⟩, ⟨⟨y, ?_⟩, hit'.1.at fun o q => (sb.2 it (Ne.symm hne)).trans q, hne, nai, nae⟩, fun b hb => ?_⟩
    · have e1 : ((i + 1 : Nat) : Int) = (i : Int) + 1 := by omega
      rw [e1]; exact he'
    · have hb' : b < s.heap.objs.size := by
        have e' : b = e ∨ b = it := by simpa using hb
        rcases e' with z | z
        · rw [z]; exact hel
        · rw [z]; exact hil
      rw [upd_ne (Nat.ne_of_lt hb')]
      exact (hf b hb).1
  done := by
    intro X hP hw hK hc i pins s σ H E I hf st hg
    subst hP hw hK
    obtain ⟨⟨old, he⟩, hit, hne, nai, nae⟩ := st
    obtain ⟨xs, hq, hx⟩ := hg
    obtain ⟨its, rv, p, hz⟩ := I.tuple hq
    obtain ⟨f0, f1, f2, f3, f4, f5⟩ := hf it (by simp)
    have hl := rv.length
    have pt : s.heap.IsTuple a its.toArray := p
    have hi : i = its.toArray.size := by simp; omega
    rw [hi] at hit he
    exact wpAny_pyNext_enum_endD (Draws.tuple (A := X.A.in1) (I.ok.hd hc) it a nai its.toArray) he ⟨hit, pt⟩ fun h' eb => ⟨rfl, I.turned (t' := s.toks) (fun b o hb q => eb b o hb q) f0 f1 f3 f4 f5⟩
  self := fun A i s Q E st h => let ⟨⟨_, he⟩, _⟩ := st; wpAny_pyIter_enum he h

end Mi
end
section
set_option Elab.async false
set_option linter.all false
set_option maxRecDepth 100000
set_option maxHeartbeats 4000000
namespace Mi
open PySem L2

section
variable (S : Sy)
/-- J walks the items xs; gd: the heap's object that must stay as it is in h0 -/
def Walk (Rl : Wd → Wd → Prop) (J : It) (xs : List D) (gd : Option Nat) (h0 : AH) (wd0 : Wd) : Prop := ∀ i wd h, Rl wd0 wd → WOk wd → RepH S.P S.w S.K S.L wd h → same gd h0 h = true →
  (i < xs.length → J.go i wd.H ∧ ∀ x H', J.yld i wd.H x H' → ∃ wd' d, xs[i]? = some d ∧ wd'.H = H' ∧ Ext wd wd' ∧ WOk wd' ∧ RepH S.P S.w S.K S.L wd' h ∧ RepV S.P S.w S.K S.L wd' d x) ∧ (i = xs.length → J.stop i wd.H)
def GoodI (wd : Wd) (own : Bool) (R : It → Hp → Prop) (p : List D × Option Nat) (h : AH) : Prop := ∀ J wd', Ext wd wd' → WOk wd' → RepH S.P S.w S.K S.L wd' h → p.1.length ≤ most → Walk S Ext J p.1 p.2 h wd' → (own = false → Walk S ExtF J p.1 p.2 h wd') → R J wd'.H
def RdI (call : CallT) (W : WX) (i : I) : TI := fun σ H R => ∃ en h wd, wd.H = H ∧ Sat S wd σ en h ∧ Post S wd (fun c d => W c d σ) (GoodI S wd (ownI i en) R) (evI S.L.g call i en h)
end
section
variable {X : Cx} {L : Ln} {call : CallT} {W : WX} {wd wd1 : Wd} {h : AH} {d : D} {x : V} {xs : List D} {Rl : Wd → Wd → Prop}
/-- the list that a value is, now and later -/
theorem list_at (ok : WOk wd) (rh : RepH X.prog X.w X.K L wd h) (r : RepP X.prog X.w X.K L wd d x) (e : asL d h = some xs) : xs.length ≤ most ∧ ∃ a, x = .ref a ∧ ∀ wd1 h1, Ext wd wd1 → RepH X.prog X.w X.K L wd1 h1 → same (refOf d) h h1 = true →
    ∃ vs, SqL X.K wd1.H a vs ∧ RepVs X.prog X.w X.K L wd1 xs vs := by
  cases d with
  | lst ys =>
    cases e
    rcases r with r | ⟨p, e1, ⟨⟨o, ho, ro⟩, nf, nr⟩⟩
    · rw [RepV] at r
      obtain ⟨a, vs, e1, r1, r2, r3⟩ := r
      refine ⟨r3, a, e1, fun wd1 h1 x1 _ _ => ⟨vs, ?_, r2.ext x1 ok⟩⟩
      rcases r1 with ⟨f, r1⟩ | r1
      · exact .inl (Rd.extF (x1.f ok) f r1)
      · exact .inr r1
    · cases ho
      obtain ⟨vs, r1, r2, r3⟩ := ro
      refine ⟨r3, p, e1, fun wd1 h1 x1 _ _ => ⟨vs, .inl (.inl ?_), r2.ext x1 ok⟩⟩
      rw [x1.keep p ⟨_, r1, fun _ z => nomatch z⟩ nr]
      exact r1
  | ref n =>
    simp only [asL] at e
    cases q : h[n]? with
    | none => rw [q] at e; cases e
    | some o =>
      rw [q] at e
      cases o with
      | lst ys =>
        cases e
        obtain ⟨hn, rfl⟩ := r.ref
        obtain ⟨_, _, _, rl⟩ := rh.2 n _ q
        refine ⟨rl, _, rfl, fun wd1 h1 x1 rh1 sm => ?_⟩
        have sm : decide (h1[n]? = h[n]?) = true := sm
        rw [decide_eq_true_eq, q] at sm
        obtain ⟨vs, r1, r2, _⟩ := rh1.2 n _ sm
        rw [x1.ρ n hn] at r1
        exact ⟨vs, .inl (.inl r1), r2⟩
      | dct _ _ => cases e
      | ins _ _ => cases e
  | _ => cases e
theorem list_atF (r : RepV X.prog X.w X.K L wd d x) (e : asL d h = some xs) : ∃ a, x = .ref a ∧ ∀ wd1 h1, ExtF wd wd1 → RepH X.prog X.w X.K L wd1 h1 → same (refOf d) h h1 = true →
    ∃ vs, SqL X.K wd1.H a vs ∧ RepVs X.prog X.w X.K L wd1 xs vs := by
  cases d with
  | lst ys =>
    cases e
    rw [RepV] at r
    obtain ⟨a, vs, e1, r1, r2, _⟩ := r
    refine ⟨a, e1, fun wd1 h1 x1 _ _ => ⟨vs, ?_, r2.extF x1⟩⟩
    rcases r1 with ⟨f, r1⟩ | r1
    · exact .inl (Rd.extF x1 f r1)
    · exact .inr r1
  | ref n =>
    simp only [asL] at e
    cases q : h[n]? with
    | none => rw [q] at e; cases e
    | some o =>
      rw [q] at e
      cases o with
      | lst ys =>
        cases e
        rw [RepV] at r
        obtain ⟨hn, rfl⟩ := r
        refine ⟨_, rfl, fun wd1 h1 x1 rh1 sm => ?_⟩
        have sm : decide (h1[n]? = h[n]?) = true := sm
        rw [decide_eq_true_eq, q] at sm
        obtain ⟨vs, r1, r2, _⟩ := rh1.2 n _ sm
        rw [x1.ρ n hn] at r1
        exact ⟨vs, .inl (.inl r1), r2⟩
      | dct _ _ => cases e
      | ins _ _ => cases e
  | _ => cases e
theorem RepP.tup {P w K} {wd : Wd} {xs : List D} {v : V} (r : RepP P w K L wd (.tup xs) v) : RepV P w K L wd (.tup xs) v := by
  rcases r with r | ⟨p, _, ⟨⟨o, ho, _⟩, _⟩⟩
  · exact r
  · cases ho
theorem tup_at (r : RepV X.prog X.w X.K L wd (.tup xs) x) : xs.length ≤ most ∧ ∃ a, x = .ref a ∧ ∀ wd1, ExtF wd wd1 → ∃ vs, SqT X.K wd1.H a vs ∧ RepVs X.prog X.w X.K L wd1 xs vs := by
  rw [RepV] at r
  obtain ⟨a, vs, e1, r1, r2, r3⟩ := r
  refine ⟨r3, a, e1, fun wd1 x1 => ⟨vs, ?_, r2.extF x1⟩⟩
  rcases r1 with ⟨f, r1⟩ | r1
  · exact .inl (Rd.extF x1 f r1)
  · exact .inr r1
theorem str_at {s : List Nat} (r : RepP X.prog X.w X.K L wd (.str s) x) : x = .str (strV s) := by
  rcases r with r | ⟨p, e1, ⟨⟨o, ho, ro⟩, nf, nr⟩⟩
  · rw [RepV] at r; exact r
  · cases ho
theorem int_at {i : Int} (r : RepP X.prog X.w X.K L wd (.int i) x) : x = .int i := by
  rcases r with r | ⟨p, e1, ⟨⟨o, ho, ro⟩, nf, nr⟩⟩
  · rw [RepV] at r; exact r
  · cases ho
theorem same_refl (n : Option Nat) (h : AH) : same n h h = true := by
  cases n <;> simp [same]
theorem walk_list {a : Addr} {gd : Option Nat} (hl : ∀ wd1 h1, Rl wd wd1 → RepH X.prog X.w X.K L wd1 h1 → same gd h h1 = true → ∃ vs, SqL X.K wd1.H a vs ∧ RepVs X.prog X.w X.K L wd1 xs vs) : Walk (sy X L) Rl (Itl X.K a) xs gd h wd := fun i wd1 h1 x1 ok1 rh1 sm => by
  obtain ⟨vs, r1, r2⟩ := hl wd1 h1 x1 rh1 sm
  refine ⟨fun hi => ⟨?_, fun y H' ⟨e, hy⟩ => ?_⟩, fun hi => ⟨vs, r1, by rw [hi, r2.len]; exact Nat.le_refl _⟩⟩
  · obtain ⟨v, hv, _⟩ := r2.get (List.getElem?_eq_getElem hi)
    exact ⟨vs, v, r1, hv⟩
  · obtain ⟨d, hd, rd⟩ := r2.get' (hy vs r1)
    exact ⟨wd1, d, hd, e.symm, Ext.refl _, ok1, rh1, rd⟩
theorem walk_tup {a : Addr} (hl : ∀ wd1, Rl wd wd1 → ∃ vs, SqT X.K wd1.H a vs ∧ RepVs X.prog X.w X.K L wd1 xs vs) : Walk (sy X L) Rl (Itt X.K a) xs none h wd := fun i wd1 h1 x1 ok1 rh1 sm => by
  obtain ⟨vs, r1, r2⟩ := hl wd1 x1
  refine ⟨fun hi => ⟨?_, fun y H' ⟨e, hy⟩ => ?_⟩, fun hi => ⟨vs, r1, by rw [hi, r2.len]; exact Nat.le_refl _⟩⟩
  · obtain ⟨v, hv, _⟩ := r2.get (List.getElem?_eq_getElem hi)
    exact ⟨vs, v, r1, hv⟩
  · obtain ⟨d, hd, rd⟩ := r2.get' (hy vs r1)
    exact ⟨wd1, d, hd, e.symm, Ext.refl _, ok1, rh1, rd⟩
theorem walk_str {s : List Nat} : Walk (sy X L) Rl (Its (strV s)) (s.map fun c => .str [c]) none h wd := fun i wd1 h1 x1 ok1 rh1 sm => by
  have sz : (strV s).cps.size = s.length := by simp [strV]
  refine ⟨fun hi => ⟨?_, fun y H' ⟨e, c, hc, hy⟩ => ?_⟩, fun hi => ?_⟩
  · show i < (strV s).cps.size
    rw [sz]; simpa using hi
  · refine ⟨wd1, .str [c], ?_, e.symm, Ext.refl _, ok1, rh1, ?_⟩
    · have : s[i]? = some c := by simpa [strV] using hc
      rw [List.getElem?_map, this] <;> rfl
    · rw [RepV, hy] <;> rfl
  · show (strV s).cps.size ≤ i
    rw [sz]; simp at hi; omega
theorem rangeL_len (a : Int) (n : Nat) (c : Int) : (rangeL a n c).length = n := by simp [rangeL]
theorem rangeL_get {a : Int} {n : Nat} {c : Int} {i : Nat} (h : i < n) : (rangeL a n c)[i]? = some (.int (a + i * c)) := by
  simp [rangeL, h]
theorem walk_range {lo : Int} {n : Nat} : Walk (sy X L) Rl (Itr lo n) (rangeL lo n 1) none h wd := fun i wd1 h1 x1 ok1 rh1 sm => by
  refine ⟨fun hi => ?_, fun hi => by rw [rangeL_len] at hi; exact Nat.le_of_eq hi.symm⟩
  rw [rangeL_len] at hi
  refine ⟨hi, fun y H' ⟨e, hy⟩ => ⟨wd1, _, rangeL_get hi, e.symm, Ext.refl _, ok1, rh1, ?_⟩⟩
  rw [RepV, hy, Int.mul_one]
/-- a new pair is frozen -/
theorem pair_new {wd : Wd} {h : AH} {a b : D} {u v : V} {T : Addr} (ok : WOk wd) (rh : RepH X.prog X.w X.K L wd h) (hT : wd.H T = none) (ra : RepV X.prog X.w X.K L wd a u) (rb : RepV X.prog X.w X.K L wd b v) :
    ∃ wd', wd'.H = upd wd.H T (.tup [u, v]) ∧ Ext wd wd' ∧ WOk wd' ∧ RepH X.prog X.w X.K L wd' h ∧ RepV X.prog X.w X.K L wd' (.tup [a, b]) (.ref T) := by
  have e2 := Ext.lay wd (o := .tup [u, v]) hT
  have fr := lay_free ok hT
  refine ⟨(wd.lay T (.tup [u, v])).frz T, rfl, e2.frz (fun z => z.ne hT), (ok.lay hT).frz (nt_upd (fun _ z => nomatch z)) fr.2, (rh.lay ok hT).frz T, ?_⟩
  rw [RepV]
  exact ⟨T, _, rfl, .inl ⟨.inr rfl, .inl upd_same⟩, .cons ((ra.ext e2 ok).sub (Sub.frz _ T)) (.cons ((rb.ext e2 ok).sub (Sub.frz _ T)) .nil), by unfold most; simp⟩
abbrev enumL (xs : List D) : List D := xs.zipIdx.map fun p => .tup [.int p.2, p.1]
theorem enumL_get {xs : List D} {i : Nat} {d : D} (h : xs[i]? = some d) : (enumL xs)[i]? = some (.tup [.int (i : Nat), d]) := by
  simp [enumL, h]
theorem enumL_len (xs : List D) : (enumL xs).length = xs.length := by simp [enumL]
theorem walk_enum {a : Addr} {gd : Option Nat} (hl : ∀ wd1 h1, Rl wd wd1 → RepH X.prog X.w X.K L wd1 h1 → same gd h h1 = true → ∃ vs, SqL X.K wd1.H a vs ∧ RepVs X.prog X.w X.K L wd1 xs vs) : Walk (sy X L) Rl (Ite X.K a) (enumL xs) gd h wd := fun i wd1 h1 x1 ok1 rh1 sm => by
  obtain ⟨vs, r1, r2⟩ := hl wd1 h1 x1 rh1 sm
  rw [enumL_len]
  refine ⟨fun hi => ⟨?_, fun y H' ⟨T, z, ey, hT, eH, hz⟩ => ?_⟩, fun hi => ⟨vs, r1, by rw [hi, r2.len]; exact Nat.le_refl _⟩⟩
  · obtain ⟨v, hv, _⟩ := r2.get (List.getElem?_eq_getElem hi)
    exact ⟨vs, v, r1, hv⟩
  · obtain ⟨d, hd, rd⟩ := r2.get' (hz vs r1)
    obtain ⟨wd', e1, x2, ok2, rh2, r3⟩ := pair_new (a := .int (i : Nat)) (u := .int (i : Nat)) ok1 rh1 hT (by rw [RepV]) rd
    exact ⟨wd', _, enumL_get hd, e1.trans eH.symm, x2, ok2, rh2, ey ▸ r3⟩
theorem walk_enumT {a : Addr} (hl : ∀ wd1, Rl wd wd1 → ∃ vs, SqT X.K wd1.H a vs ∧ RepVs X.prog X.w X.K L wd1 xs vs) : Walk (sy X L) Rl (IteT X.K a) (enumL xs) none h wd := fun i wd1 h1 x1 ok1 rh1 sm => by
  obtain ⟨vs, r1, r2⟩ := hl wd1 x1
  rw [enumL_len]
  refine ⟨fun hi => ⟨?_, fun y H' ⟨T, z, ey, hT, eH, hz⟩ => ?_⟩, fun hi => ⟨vs, r1, by rw [hi, r2.len]⟩⟩
  · obtain ⟨v, hv, _⟩ := r2.get (List.getElem?_eq_getElem hi)
    exact ⟨vs, v, r1, hv⟩
  · obtain ⟨d, hd, rd⟩ := r2.get' (hz vs r1)
    obtain ⟨wd', e1, x2, ok2, rh2, r3⟩ := pair_new (a := .int (i : Nat)) (u := .int (i : Nat)) ok1 rh1 hT (by rw [RepV]) rd
    exact ⟨wd', _, enumL_get hd, e1.trans eH.symm, x2, ok2, rh2, ey ▸ r3⟩
abbrev zipL (xs ys : List D) : List D := (xs.zip ys).map fun p => .tup [p.1, p.2]
theorem zipL_get {xs ys : List D} {i : Nat} {a b : D} (h : xs[i]? = some a) (k : ys[i]? = some b) : (zipL xs ys)[i]? = some (.tup [a, b]) := by
  simp [zipL, List.getElem?_zip_eq_some, h, k]
theorem zipL_len (xs ys : List D) : (zipL xs ys).length = min xs.length ys.length := by simp [zipL]
theorem walk_zip {a b : Addr} {ys : List D} (hl : ∀ wd1 h1, Rl wd wd1 → RepH X.prog X.w X.K L wd1 h1 → ∃ vs, SqL X.K wd1.H a vs ∧ RepVs X.prog X.w X.K L wd1 xs vs)
    (hk : ∀ wd1 h1, Rl wd wd1 → RepH X.prog X.w X.K L wd1 h1 → ∃ vs, SqL X.K wd1.H b vs ∧ RepVs X.prog X.w X.K L wd1 ys vs) : Walk (sy X L) Rl (Itz X.K a b) (zipL xs ys) none h wd := fun i wd1 h1 x1 ok1 rh1 sm => by
  obtain ⟨vs, r1, r2⟩ := hl wd1 h1 x1 rh1
  obtain ⟨us, q1, q2⟩ := hk wd1 h1 x1 rh1
  rw [zipL_len]
  refine ⟨fun hi => ⟨?_, fun y H' ⟨T, z, z', ey, hT, eH, hz, hz'⟩ => ?_⟩, fun hi => ⟨vs, us, r1, q1, by rw [← r2.len, ← q2.len]; omega⟩⟩
  · obtain ⟨v, hv, _⟩ := r2.get (List.getElem?_eq_getElem (show i < xs.length by omega))
    obtain ⟨u, hu, _⟩ := q2.get (List.getElem?_eq_getElem (show i < ys.length by omega))
    exact ⟨vs, us, v, u, r1, q1, hv, hu⟩
  · obtain ⟨d, hd, rd⟩ := r2.get' (hz vs r1)
    obtain ⟨e, he, re⟩ := q2.get' (hz' us q1)
    obtain ⟨wd', e1, x2, ok2, rh2, r3⟩ := pair_new ok1 rh1 hT rd re
    exact ⟨wd', _, zipL_get hd he, e1.trans eH.symm, x2, ok2, rh2, ey ▸ r3⟩
theorem walk_zipT {a b : Addr} {ys : List D} (hl : ∀ wd1, Rl wd wd1 → ∃ vs, SqT X.K wd1.H a vs ∧ RepVs X.prog X.w X.K L wd1 xs vs)
    (hk : ∀ wd1, Rl wd wd1 → ∃ vs, SqT X.K wd1.H b vs ∧ RepVs X.prog X.w X.K L wd1 ys vs) : Walk (sy X L) Rl (RZ.ItzT X.K a b) (zipL xs ys) none h wd := fun i wd1 h1 x1 ok1 rh1 sm => by
  obtain ⟨vs, r1, r2⟩ := hl wd1 x1
  obtain ⟨us, q1, q2⟩ := hk wd1 x1
  rw [zipL_len]
  refine ⟨fun hi => ⟨?_, fun y H' ⟨T, z, z', ey, hT, eH, hz, hz'⟩ => ?_⟩, fun hi => ⟨vs, us, r1, q1, by rw [← r2.len, ← q2.len]; omega⟩⟩
  · obtain ⟨v, hv, _⟩ := r2.get (List.getElem?_eq_getElem (show i < xs.length by omega))
    obtain ⟨u, hu, _⟩ := q2.get (List.getElem?_eq_getElem (show i < ys.length by omega))
    exact ⟨vs, us, v, u, r1, q1, hv, hu⟩
  · obtain ⟨d, hd, rd⟩ := r2.get' (hz vs r1)
    obtain ⟨e, he, re⟩ := q2.get' (hz' us q1)
    obtain ⟨wd', e1, x2, ok2, rh2, r3⟩ := pair_new ok1 rh1 hT rd re
    exact ⟨wd', _, zipL_get hd he, e1.trans eH.symm, x2, ok2, rh2, ey ▸ r3⟩

/-! ### the rules -/
section
variable {tg : Expr} {pins : List (Addr × PySem.Obj)} {σ : L2.St} {s : Shared} {R : It → Hp → Prop} {Ex : Value → Shared → Prop}
theorem it_list {H1 : Hp} {a : Addr} {vs : List V} (I1 : Inv X pins σ H1 s) (hq : SqL X.K H1 a vs) (q : R (Itl X.K a) H1) : wpAny (model X.prog X.w) X.A (pyIter (.ref a)) (PIE X pins σ tg R) Ex s := by
  obtain ⟨its, rv, p, hz⟩ := I1.list hq
  refine wpAny_pyIter_list p.isList ?_
  refine ⟨s.heap.objs.size, [s.heap.objs.size], _, _, H1, rfl, I1.kept (t' := s.toks) fun b o e => Heap.get?_push_of_some _ e, turn_list a _, ⟨_, Heap.get?_push_size _ rfl, rfl, rfl⟩, fun b hb => ?_, q⟩
  have e : b = s.heap.objs.size := by simpa using hb
  subst e
  exact I1.fpOk (Nat.le_refl _) (I1.hok.fresh (Nat.le_refl _))
theorem it_tup {H1 : Hp} {a : Addr} {vs : List V} (I1 : Inv X pins σ H1 s) (hq : SqT X.K H1 a vs) (q : R (Itt X.K a) H1) : wpAny (model X.prog X.w) X.A (pyIter (.ref a)) (PIE X pins σ tg R) Ex s := by
  obtain ⟨its, rv, p, hz⟩ := I1.tuple hq
  refine wpAny_pyIter_tuple (show s.heap.IsTuple a its.toArray from p) ?_
  refine ⟨s.heap.objs.size, [s.heap.objs.size], _, _, H1, rfl, I1.kept (t' := s.toks) fun b o e => Heap.get?_push_of_some _ e, turn_tuple a _, ⟨_, Heap.get?_push_size _ rfl, rfl, rfl⟩, fun b hb => ?_, q⟩
  have e : b = s.heap.objs.size := by simpa using hb
  subst e
  exact I1.fpOk (Nat.le_refl _) (I1.hok.fresh (Nat.le_refl _))
theorem it_str {H1 : Hp} {y : Str} {t : Tok} (I1 : Inv X pins σ H1 s) (q : R (Its y) H1) : wpAny (model X.prog X.w) X.A (pyIter (.str y t)) (PIE X pins σ tg R) Ex s := by
  cases ha : y.cps.all (· < 128)
  · exact wpAny_pyIter_wide ha (pi_one (tk := s.toks) I1 _ (turn_str _ y t "str_iterator" (.inr rfl)) ⟨_, Heap.get?_push_size _ rfl, rfl, rfl⟩ q)
  · exact wpAny_pyIter_ascii ha (pi_one (tk := s.toks) I1 _ (turn_str _ y t "str_ascii_iterator" (.inl rfl)) ⟨_, Heap.get?_push_size _ rfl, rfl, rfl⟩ q)
end
theorem ownE_of {e : E} {en : MEnv} {v : V} (h : if isOwn e en = true then RepP X.prog X.w X.K L wd d v else RepV X.prog X.w X.K L wd d v) (q : isOwn e en = false) : RepV X.prog X.w X.K L wd d v := by
  rw [q] at h; exact h
theorem ri_e {tg e : Expr} {e' : E} (he : PE X e (RdE (sy X L) call W e')) : PI X tg e (RdI (sy X L) call W (.e e')) := by
  refine ⟨fun pins s σ H R I q => ?_⟩
  obtain ⟨en, h, wd, e1, st, p⟩ := q
  subst e1
  rw [evI] at p
  refine thn (he.run pins s σ _ (fun x H1 => ∃ d h1 wd1, wd1.H = H1 ∧ Ext wd wd1 ∧ Sat (sy X L) wd1 σ en h1 ∧ RepP X.prog X.w X.K L wd1 d x ∧ (isOwn e' en = false → RepV X.prog X.w X.K L wd1 d x) ∧ Post (sy X L) wd (fun c d => W c d σ) (GoodI (sy X L) wd (isOwn e' en) R) (itD d h1)) I
    (rdE_step st p.bind fun d h1 v wd1 g x1 st1 r rv => ⟨d, h1, wd1, rfl, x1, st1, r, rv, g⟩)) fun u s1 ⟨x, H1, I1, rx, d, h1, wd1, eH, x1, st1, r, rv, q1⟩ => ?_
  subst eH
  cases d with
  | lst xs =>
    obtain ⟨ln, a, ex, hl⟩ := list_at st1.ok st1.rh r (show asL (.lst xs) h1 = some xs from rfl)
    subst ex
    obtain rfl : u = Value.ref a := rx
    obtain ⟨vs, hq, _⟩ := hl wd1 h1 (Ext.refl _) st1.rh rfl
    refine it_list I1 hq (q1 _ wd1 x1 st1.ok st1.rh ln (walk_list hl) fun q => ?_)
    obtain ⟨a', ex, hl⟩ := list_atF (h := h1) (rv q) (show asL (.lst xs) h1 = some xs from rfl)
    cases ex
    exact walk_list hl
  | tup xs =>
    obtain ⟨ln, a, ex, hl⟩ := tup_at r.tup
    subst ex
    obtain rfl : u = Value.ref a := rx
    obtain ⟨vs, hq, _⟩ := hl wd1 (ExtF.refl _)
    exact it_tup I1 hq (q1 _ wd1 x1 st1.ok st1.rh ln (walk_tup fun wd2 x2 => hl wd2 (x2.f st1.ok)) fun q => walk_tup hl)
  | str y =>
    have ex := str_at r
    subst ex
    obtain ⟨t, rfl⟩ := rx
    simp only [itD] at q1
    by_cases hl : y.length ≤ most
    · rw [if_pos hl] at q1
      exact it_str I1 (q1 _ wd1 x1 st1.ok st1.rh (by simpa using hl) walk_str fun q => walk_str)
    · rw [if_neg hl] at q1; exact q1.elim
  | ref n =>
    simp only [itD] at q1
    cases q : h1[n]? with
    | none => rw [q] at q1; exact q1.elim
    | some o =>
      rw [q] at q1
      cases o with
      | lst xs =>
        have eL : asL (.ref n) h1 = some xs := by simp [asL, q]
        obtain ⟨ln, a, ex, hl⟩ := list_at st1.ok st1.rh r eL
        subst ex
        obtain rfl : u = Value.ref a := rx
        obtain ⟨vs, hq, _⟩ := hl wd1 h1 (Ext.refl _) st1.rh (same_refl _ _)
        refine it_list I1 hq (q1 _ wd1 x1 st1.ok st1.rh ln (walk_list hl) fun q => ?_)
        obtain ⟨a', ex, hl⟩ := list_atF (h := h1) (rv q) eL
        cases ex
        exact walk_list hl
      | dct _ _ => exact q1.elim
      | ins _ _ => exact q1.elim
  | _ => exact q1.elim
/-- range(a) -/
theorem wide_of {i : Int} (h : wide i = true) : -(2 ^ 62) ≤ i ∧ i < 2 ^ 62 := by
  simp only [wide, Bool.and_eq_true, decide_eq_true_eq] at h
  exact ⟨by have := h.1; omega, by have := h.2; omega⟩
theorem ri_r1 {tg a : Expr} {a' : E} {p pos : Pos} (hg : Gl X "range") (hm : X.mg "range" = none) (ha : PE X a (RdE (sy X L) call W a')) (hs : starEach [a] X.env = [(false, eval a X.env)]) : PI X tg (.Call (.Name "range" p) [a] [] pos) (RdI (sy X L) call W (.r1 a')) := by
  have hp := pi_range1 (tg := tg) (p := p) (pos := pos) hg hm (pa_cons ha pa_nil hs) hs
  refine ⟨fun pins s σ H R I q => hp.run pins s σ H R I ?_⟩
  obtain ⟨en, h, wd, e1, st, p⟩ := q
  subst e1
  rw [evI] at p
  refine rdE_step st p.bind fun d h1 v wd1 g x1 st1 r _ => ?_
  cases d with
  | int n =>
    have := int_at r
    subst this
    dsimp only at g
    by_cases q : (wide n = true) ∧ n.toNat ≤ most
    · rw [if_pos q] at g
      exact ⟨n, rfl, (wide_of q.1).1, (wide_of q.1).2, g _ wd1 x1 st1.ok st1.rh (by rw [rangeL_len]; exact q.2) walk_range fun _ => walk_range⟩
    · rw [if_neg q] at g; exact g.elim
  | _ => exact g.elim
theorem ri_r2 {tg a b : Expr} {a' b' : E} {p pos : Pos} (hg : Gl X "range") (hm : X.mg "range" = none) (ha : PE X a (RdE (sy X L) call W a')) (hb : PE X b (RdE (sy X L) call W b')) (hs1 : starEach [b] X.env = [(false, eval b X.env)]) (hs : starEach [a, b] X.env = (false, eval a X.env) :: starEach [b] X.env) :
    PI X tg (.Call (.Name "range" p) [a, b] [] pos) (RdI (sy X L) call W (.r2 a' b')) := by
  have hp := pi_range2 (tg := tg) (p := p) (pos := pos) hg hm (pa_cons ha (pa_cons hb pa_nil hs1) hs) (by rw [hs, hs1]) hs1
  refine ⟨fun pins s σ H R I q => hp.run pins s σ H R I ?_⟩
  obtain ⟨en, h, wd, e1, st, p⟩ := q
  subst e1
  rw [evI] at p
  refine rdE_step st p.bind fun d h1 v wd1 g x1 st1 r _ => ?_
  refine rdE_step st1 (Post.ext g.bind x1 fun _ _ z => z) fun d2 h2 v2 wd2 g2 x2 st2 r2 _ => ?_
  cases d with
  | int n =>
    cases d2 with
    | int m =>
      have := int_at r
      subst this
      have := int_at r2
      subst this
      dsimp only at g2
      by_cases q : (wide n = true) ∧ (wide m = true) ∧ (m - n).toNat ≤ most
      · rw [if_pos q] at g2
        exact ⟨n, m, rfl, ⟨(wide_of q.1).1, (wide_of q.1).2, (wide_of q.2.1).1, (wide_of q.2.1).2⟩, g2 _ wd2 (x1.trans x2) st2.ok st2.rh (by rw [rangeL_len]; exact q.2.2) walk_range fun _ => walk_range⟩
      · rw [if_neg q] at g2; exact g2.elim
    | _ => exact g2.elim
  | _ => exact g2.elim
theorem asS_cases {d : D} {h : AH} {xs : List D} (e : asS d h = some xs) : d = .tup xs ∨ asL d h = some xs := by
  cases d with
  | tup ys => cases e; exact .inl rfl
  | _ => exact .inr e
theorem ri_enum {elts : List Expr} {kk : Nat} {tpos : Pos} {a : Expr} {a' : E} {p pos : Pos} (hg : Gl X "enumerate") (hm : X.mg "enumerate" = none) (ha : PE X a (RdE (sy X L) call W a')) (hs : starEach [a] X.env = [(false, eval a X.env)]) :
    PI X (.Tuple elts kk tpos) (.Call (.Name "enumerate" p) [a] [] pos) (RdI (sy X L) call W (.enum a')) := by
  refine ⟨fun pins s σ H R I q => ?_⟩
  obtain ⟨en, h, wd, e1, st, pp⟩ := q
  subst e1
  rw [evI] at pp
  have g : tCons (RdE (sy X L) call W a') tNil σ wd.H fun vs H1 => ∃ x d xs h1 wd1, vs = [x] ∧ wd1.H = H1 ∧ Ext wd wd1 ∧ Sat (sy X L) wd1 σ en h1 ∧ RepP X.prog X.w X.K L wd1 d x ∧ (isOwn a' en = false → RepV X.prog X.w X.K L wd1 d x) ∧ asS d h1 = some xs ∧ GoodI (sy X L) wd (isOwn a' en) R (enumL xs, refOf d) h1 :=
    rdE_step st pp.bind fun d h1 v wd1 g x1 st1 r rv => by
      cases e : asS d h1 with
      | none => rw [e] at g; exact g.elim
      | some xs => rw [e] at g; exact ⟨v, d, xs, h1, wd1, rfl, rfl, x1, st1, r, rv, e, g⟩
  refine PyProof.Rows.Call_ (ld_blt I hg hm PyProof.Rows.boot_enumerate (PyProof.Rows.callWith_type1 (thn ((pa_cons ha pa_nil hs).run pos pins s σ _ _ I g) fun us s1 ⟨vs, H1, I1, r1, x, d, xs, h1, wd1, ev, eH, x1, st1, r, rv, eS, q1⟩ => ?_) hs rfl))
  subst ev eH
  cases r1 with
  | cons rx rr =>
    cases rr
    rcases asS_cases eS with ed | eL
    · subst ed
      obtain ⟨ln, t, ex, hl⟩ := tup_at r.tup
      subst ex
      cases rx
      obtain ⟨vs, hq, _⟩ := hl wd1 (ExtF.refl _)
      obtain ⟨its, rvs, p', hz⟩ := I1.tuple hq
      have pt : s1.heap.IsTuple t its.toArray := p'
      refine call_enumerate_tuple pt fun h' he hit hsz hk => wpAny_pyIter_enum he ?_
      have I2 : Inv X pins σ wd1.H { s1 with heap := h' } := I1.kept (t' := s1.toks) hk
      have tlt : t < s1.heap.objs.size := p'.lt
      refine ⟨s1.heap.objs.size + 1, [s1.heap.objs.size + 1, s1.heap.objs.size], _, _, wd1.H, rfl, I2, turn_enumT t (s1.heap.objs.size + 1) s1.heap.objs.size, ⟨⟨.none, he⟩, hit, Nat.succ_ne_self _, Nat.ne_of_lt tlt, Nat.ne_of_lt (Nat.lt_succ_of_lt tlt)⟩, fun b hb => ?_, q1 _ wd1 x1 st1.ok st1.rh (by rw [enumL_len]; exact ln) (walk_enumT fun wd2 x2 => hl wd2 (x2.f st1.ok)) fun q => walk_enumT hl⟩
      have e' : b = s1.heap.objs.size + 1 ∨ b = s1.heap.objs.size := by simpa using hb
      have hle : s1.heap.objs.size ≤ b := by
        rcases e' with z | z
        · rw [z]; exact Nat.le_add_right _ _
        · rw [z]; exact Nat.le_refl _
      exact I1.fpOk hle (I1.hok.fresh hle)
    · obtain ⟨ln, l, ex, hl⟩ := list_at st1.ok st1.rh r eL
      subst ex
      cases rx
      obtain ⟨vs, hq, _⟩ := hl wd1 h1 (Ext.refl _) st1.rh (same_refl _ _)
      obtain ⟨its, rvs, p', hz⟩ := I1.list hq
      refine call_enumerate_list p'.isList fun h' he hit hsz hk => wpAny_pyIter_enum he ?_
      have I2 : Inv X pins σ wd1.H { s1 with heap := h' } := I1.kept (t' := s1.toks) hk
      refine ⟨s1.heap.objs.size + 1, [s1.heap.objs.size + 1, s1.heap.objs.size], _, _, wd1.H, rfl, I2, turn_enum l (s1.heap.objs.size + 1) s1.heap.objs.size, ⟨⟨.none, he⟩, hit, Nat.succ_ne_self _⟩, fun b hb => ?_, q1 _ wd1 x1 st1.ok st1.rh (by rw [enumL_len]; exact ln) (walk_enum hl) fun q => ?_⟩
      · have e' : b = s1.heap.objs.size + 1 ∨ b = s1.heap.objs.size := by simpa using hb
        have hle : s1.heap.objs.size ≤ b := by
          rcases e' with z | z
          · rw [z]; exact Nat.le_add_right _ _
          · rw [z]; exact Nat.le_refl _
        exact I1.fpOk hle (I1.hok.fresh hle)
      · obtain ⟨a', ex, hl⟩ := list_atF (rv q) eL
        cases ex
        exact walk_enum hl
/-- zip of two values: lists, or tuples -/
theorem ri_zip {elts : List Expr} {kk : Nat} {tpos : Pos} {a b : Expr} {a' b' : E} {p pos : Pos} (hg : Gl X "zip") (hm : X.mg "zip" = none) (ha : PE X a (RdE (sy X L) call W a')) (hb : PE X b (RdE (sy X L) call W b'))
    (hs1 : starEach [b] X.env = [(false, eval b X.env)]) (hs : starEach [a, b] X.env = (false, eval a X.env) :: starEach [b] X.env) :
    PI X (.Tuple elts kk tpos) (.Call (.Name "zip" p) [a, b] [] pos) (RdI (sy X L) call W (.zip a' b')) := by
  have hp := RZ.pi_zipA (p := p) (pos := pos) (tpos := tpos) (elts := elts) (kk := kk) hg hm (pa_cons ha (pa_cons hb pa_nil hs1) hs) hs (by rw [hs1]; rfl)
  refine ⟨fun pins s σ H R I q => hp.run pins s σ H R I ?_⟩
  obtain ⟨en, h, wd, e1, st, p⟩ := q
  subst e1
  rw [evI] at p
  refine rdE_step st p.bind fun d h1 v wd1 g x1 st1 r rv => ?_
  refine rdE_step st1 (Post.ext g.bind x1 fun _ _ z => z) fun d2 h2 v2 wd2 g2 x2 st2 r2 rv2 => ?_
  have r := r.ext x2 st1.ok
  cases e1 : asS d h2 with
  | none => rw [e1] at g2; exact g2.elim
  | some xs =>
    cases e2 : asS d2 h2 with
    | none => rw [e1, e2] at g2; exact g2.elim
    | some ys =>
      cases e3 : refOf d with
      | some n => rw [e1, e2, e3] at g2; exact g2.elim
      | none =>
        cases e4 : refOf d2 with
        | some n => rw [e1, e2, e3, e4] at g2; exact g2.elim
        | none =>
          cases e5 : decide (isTup d = isTup d2) with
          | false => rw [e1, e2, e3, e4, e5] at g2; exact g2.elim
          | true =>
            rw [e1, e2, e3, e4, e5] at g2
            have e5 := of_decide_eq_true e5
            have nt : ∀ {d : D} {xs : List D}, asL d h2 = some xs → isTup d = false := fun {d xs} e => by cases d <;> first | rfl | cases e
            rcases asS_cases e1 with ed | eL
            · subst ed
              rcases asS_cases e2 with ed2 | eL2
              · subst ed2
                obtain ⟨ln, t, ex, hl⟩ := tup_at r.tup
                obtain ⟨ln2, t2, ex2, hl2⟩ := tup_at r2.tup
                subst ex ex2
                obtain ⟨vs, hq, _⟩ := hl wd2 (ExtF.refl _)
                obtain ⟨us, hq2, _⟩ := hl2 wd2 (ExtF.refl _)
                exact ⟨t, t2, vs, us, rfl, .inr ⟨hq, hq2, g2 _ wd2 (x1.trans x2) st2.ok st2.rh (by rw [zipL_len]; omega) (walk_zipT (fun w x => hl w (x.f st2.ok)) fun w x => hl2 w (x.f st2.ok)) fun _ => walk_zipT hl hl2⟩⟩
              · rw [nt eL2] at e5; cases e5
            · rcases asS_cases e2 with ed2 | eL2
              · rw [nt eL, ed2] at e5; cases e5
              · obtain ⟨ln, l, ex, hl⟩ := list_at st2.ok st2.rh r eL
                obtain ⟨ln2, l2, ex2, hl2⟩ := list_at st2.ok st2.rh r2 eL2
                subst ex ex2
                rw [e3] at hl
                rw [e4] at hl2
                obtain ⟨vs, hq, _⟩ := hl wd2 h2 (Ext.refl _) st2.rh rfl
                obtain ⟨us, hq2, _⟩ := hl2 wd2 h2 (Ext.refl _) st2.rh rfl
                refine ⟨l, l2, vs, us, rfl, .inl ⟨hq, hq2, g2 _ wd2 (x1.trans x2) st2.ok st2.rh (by rw [zipL_len]; omega) (walk_zip (fun w h x r => hl w h x r rfl) fun w h x r => hl2 w h x r rfl) fun q => ?_⟩⟩
                simp only [ownI, Bool.or_eq_false_iff] at q
                obtain ⟨l', ex, hl⟩ := list_atF ((rv q.1).ext x2 st1.ok) eL
                obtain ⟨l2', ex2, hl2⟩ := list_atF (rv2 q.2) eL2
                cases ex
                cases ex2
                rw [e3] at hl
                rw [e4] at hl2
                exact walk_zip (fun w h x r => hl w h x r rfl) fun w h x r => hl2 w h x r rfl
end
end Mi
end
section
set_option Elab.async false
set_option linter.all false
set_option maxRecDepth 100000
set_option maxHeartbeats 4000000
/-! Targets, comprehensions, list(..). -/
namespace Mi
open PySem L2

/-! ### targets -/
mutual
def T.slots : T → List Nat
  | .v i => [i]
  | .t ts => T.slotsL ts
def T.slotsL : List T → List Nat
  | [] => []
  | x :: ts => T.slots x ++ T.slotsL ts
end
section
variable {P : Program} {w : World} {K : PySem.W.Frag} {L : Ln} {wd : Wd} {σ : L2.St} {en : MEnv}
theorem RepE.set {i : Nat} {d : D} {v : V} (r : RepE P w K L wd σ en) (rv : RepV P w K L wd d v) : RepE P w K L wd (σ.set i (some v)) (en.set i (.v d)) := by
  refine ⟨by simp [r.len], fun j s u h1 h2 => ?_, r.tb, fun j k d1 d2 p h1 h2 h3 h4 => ?_⟩
  · by_cases q : i = j
    · subst q
      have l1 := (List.getElem?_eq_some_iff.mp h1).1
      have l2 := (List.getElem?_eq_some_iff.mp h2).1
      rw [List.getElem?_set_self (by simpa using l1)] at h1
      rw [List.getElem?_set_self (by simpa using l2)] at h2
      cases h1
      cases h2
      exact ⟨v, rfl, rv⟩
    · rw [List.getElem?_set_ne q] at h1 h2
      exact r.at_ j s u h1 h2
  · have n1 : i ≠ j := fun q => by
      subst q
      have l1 := (List.getElem?_eq_some_iff.mp h1).1
      rw [List.getElem?_set_self (by simpa using l1)] at h1
      cases h1
    have n2 : i ≠ k := fun q => by
      subst q
      have l1 := (List.getElem?_eq_some_iff.mp h2).1
      rw [List.getElem?_set_self (by simpa using l1)] at h2
      cases h2
    rw [List.getElem?_set_ne n1] at h1 h3
    rw [List.getElem?_set_ne n2] at h2 h4
    exact r.own j k d1 d2 p h1 h2 h3 h4
theorem RepE.un {i : Nat} {o : Option V} (r : RepE P w K L wd σ en) : RepE P w K L wd (σ.set i o) (en.set i .un) := by
  refine ⟨by simp [r.len], fun j s u h1 h2 => ?_, r.tb, fun j k d1 d2 p h1 h2 h3 h4 => ?_⟩
  · by_cases q : i = j
    · subst q
      have l1 := (List.getElem?_eq_some_iff.mp h1).1
      rw [List.getElem?_set_self (by simpa using l1)] at h1
      cases h1
      trivial
    · rw [List.getElem?_set_ne q] at h1 h2
      exact r.at_ j s u h1 h2
  · have n1 : i ≠ j := fun q => by
      subst q
      have l1 := (List.getElem?_eq_some_iff.mp h1).1
      rw [List.getElem?_set_self (by simpa using l1)] at h1
      cases h1
    have n2 : i ≠ k := fun q => by
      subst q
      have l1 := (List.getElem?_eq_some_iff.mp h2).1
      rw [List.getElem?_set_self (by simpa using l1)] at h2
      cases h2
    rw [List.getElem?_set_ne n1] at h1 h3
    rw [List.getElem?_set_ne n2] at h2 h4
    exact r.own j k d1 d2 p h1 h2 h3 h4
/-- own slots that become anything else -/
theorem RepE.weak {en' : MEnv} (r : RepE P w K L wd σ en) (hl : en'.length = en.length) (h : ∀ (i : Nat) s, en'[i]? = some s → s = .un ∨ en[i]? = some s) : RepE P w K L wd σ en' := by
  refine ⟨hl.trans r.len, fun i s v h1 h2 => ?_, r.tb, fun i j d e p h1 h2 h3 h4 => ?_⟩
  · rcases h i s h1 with q | q
    · subst q; trivial
    · exact r.at_ i s v q h2
  · rcases h i _ h1 with q | q
    · cases q
    · rcases h j _ h2 with q2 | q2
      · cases q2
      · exact r.own i j d e p q q2 h3 h4
theorem wipe_rep : ∀ (vs : List Nat) {σ : L2.St} {en : MEnv}, RepE P w K L wd σ en → RepE P w K L wd (L2.wipe σ vs) (wipe en vs)
  | [], _, _, r => r
  | v :: vs, σ, en, r => by
    show RepE P w K L wd ((L2.wipe σ vs).set v none) (wipe (en.set v .un) vs)
    have r1 := wipe_rep vs (r.un (i := v) (o := none))
    refine ⟨by rw [r1.len, List.length_set, L2.wipe_length, L2.wipe_length, List.length_set], fun i s u h1 h2 => ?_, r1.tb, fun i j d e p h1 h2 h3 h4 => ?_⟩
    · by_cases q : v = i
      · subst q
        have : s = .un := by
          have : ∀ (l : List Nat) (e : MEnv), e[v]? = some .un → (wipe e l)[v]? = some .un := by
            intro l
            induction l with
            | nil => intro e h; exact h
            | cons a l ih =>
              intro e h
              refine ih _ ?_
              by_cases q : a = v
              · subst q; rw [List.getElem?_set_self (List.getElem?_eq_some_iff.mp h).1]
              · rw [List.getElem?_set_ne q]; exact h
          have hl := (List.getElem?_eq_some_iff.mp h1).1
          have lw : ∀ (l : List Nat) (e : MEnv), (wipe e l).length = e.length := by
            intro l
            induction l with
            | nil => intro e; rfl
            | cons a l ih => intro e; show (wipe (e.set a .un) l).length = _; rw [ih, List.length_set]
          rw [lw, List.length_set] at hl
          have := this vs (en.set v .un) (by rw [List.getElem?_set_self hl])
          rw [this] at h1
          exact (Option.some.inj h1).symm
        subst this
        trivial
      · rw [List.getElem?_set_ne q] at h2
        have e1 : (L2.wipe (σ.set v none) vs)[i]? = (L2.wipe σ vs)[i]? := by
          have : ∀ (l : List Nat) (a b : L2.St), a[i]? = b[i]? → a.length = b.length → (L2.wipe a l)[i]? = (L2.wipe b l)[i]? := by
            intro l
            induction l with
            | nil => intro a b h _; exact h
            | cons c l ih =>
              intro a b h hl
              show ((L2.wipe a l).set c none)[i]? = ((L2.wipe b l).set c none)[i]?
              by_cases q : c = i
              · subst q
                simp [List.getElem?_set, L2.wipe_length, hl]
              · rw [List.getElem?_set_ne q, List.getElem?_set_ne q]; exact ih a b h hl
          exact this vs _ _ (List.getElem?_set_ne q) (List.length_set ..)
        exact r1.at_ i s u h1 (e1.trans h2)
    · have hs : ∀ {i : Nat} {p : Addr}, ((L2.wipe σ vs).set v none)[i]? = some (some (.ref p)) → (L2.wipe (σ.set v none) vs)[i]? = some (some (.ref p)) := fun {i p} h => by
        by_cases q : v = i
        · subst q
          have l := (List.getElem?_eq_some_iff.mp h).1
          rw [List.getElem?_set_self (by simpa using l)] at h
          cases h
        · rw [List.getElem?_set_ne q] at h
          have h := L2.wipe_some h
          have : ∀ (l : List Nat) (a : L2.St), a[i]? = some (some (.ref p)) → i ∉ l → (L2.wipe a l)[i]? = some (some (.ref p)) := by
            intro l
            induction l with
            | nil => intro a h _; exact h
            | cons c l ih =>
              intro a h hn
              show ((L2.wipe a l).set c none)[i]? = _
              rw [List.getElem?_set_ne fun e => hn (by simp [e])]
              exact ih a h fun z => hn (List.mem_cons_of_mem _ z)
          exact this vs _ (by rw [List.getElem?_set_ne q]; exact h.1) h.2
      exact r1.own i j d e p h1 h2 (hs h3) (hs h4)
theorem wipe_eq {vs : List Nat} {σ σ' : L2.St} (hl : σ'.length = σ.length) (h : ∀ i, i ∉ vs → σ'[i]? = σ[i]?) : L2.wipe σ' vs = L2.wipe (L2.wipe σ vs) vs := by
  have wi : ∀ (l : List Nat) (a : L2.St) (i : Nat), (L2.wipe a l)[i]? = if i ∈ l then (if i < a.length then some none else none) else a[i]? := by
    intro l
    induction l with
    | nil => intro a i; simp [L2.wipe]
    | cons c l ih =>
      intro a i
      show ((L2.wipe a l).set c none)[i]? = _
      by_cases q : c = i
      · subst q
        simp [List.getElem?_set, L2.wipe_length]
      · rw [List.getElem?_set_ne q, ih]
        have : i ≠ c := Ne.symm q
        simp [this]
  refine List.ext_getElem? fun i => ?_
  rw [wi, wi, wi]
  by_cases q : i ∈ vs
  · simp [q, L2.wipe_length, hl]
  · simp [q, h i q]
end
section
variable (S : Sy)
def RdT (t : T) : TG := fun v σ H Q => ∃ en h wd d en', wd.H = H ∧ Sat S wd σ en h ∧ RepV S.P S.w S.K S.L wd d v ∧ bindT t d en = some en' ∧
  ∀ σ', Sat S wd σ' en' h → (∀ i, i ∉ t.slots → σ'[i]? = σ[i]?) → σ'.length = σ.length → Q σ' wd.H
def RdTs (ts : List T) : TGs := fun vs σ H Q => ∃ en h wd ds en', wd.H = H ∧ Sat S wd σ en h ∧ RepVs S.P S.w S.K S.L wd ds vs ∧ bindTs ts ds en = some en' ∧
  ∀ σ', Sat S wd σ' en' h → (∀ i, i ∉ T.slotsL ts → σ'[i]? = σ[i]?) → σ'.length = σ.length → Q σ' wd.H
end
section
variable {X : Cx} {L : Ln} {pos : Pos}
theorem _root_.L2.PG.impM {tg : Expr} {t t' : TG} (h : PG X tg t) (k : ∀ v σ H Q, t' v σ H Q → t v σ H Q) : PG X tg t' := ⟨fun pins s σ H v u Q I r q => h.run pins s σ H v u Q I r (k _ _ _ _ q)⟩
theorem _root_.L2.PGs.impM {ts : List Expr} {t t' : TGs} (h : PGs X ts t) (k : ∀ v σ H Q, t' v σ H Q → t v σ H Q) : PGs X ts t' := ⟨fun pins s σ H v u Q I r q => h.run pins s σ H v u Q I r (k _ _ _ _ q)⟩
theorem rt_v {i : Nat} {tg : Expr} (h : PG X tg (gName i)) : PG X tg (RdT (sy X L) (.v i)) := h.impM fun v σ H Q ⟨en, h, wd, d, en', e1, st, r, e, k⟩ => by
  subst e1
  rw [bindT] at e
  cases e
  exact k _ ⟨st.ok, st.rh, st.re.set r⟩ (fun j hj => List.getElem?_set_ne fun e => hj (by simp [T.slots, e])) (List.length_set ..)
theorem rts_nil : PGs X [] (RdTs (sy X L) []) := pgs_nil.impM fun v σ H Q ⟨en, h, wd, ds, en', e1, st, r, e, k⟩ => by
  subst e1
  cases ds with
  | nil => rw [bindTs] at e; cases e; exact ⟨r.nil_inv, k σ st (fun _ _ => rfl) rfl⟩
  | cons d ds => rw [bindTs] at e; cases e; all_goals simp
theorem rts_cons {e : Expr} {es : List Expr} {t : T} {ts : List T} (h1 : PG X e (RdT (sy X L) t)) (h2 : PGs X es (RdTs (sy X L) ts)) (hs : (assignEach (e :: es) X.env).map (·.2) = assign e X.env :: (assignEach es X.env).map (·.2)) : PGs X (e :: es) (RdTs (sy X L) (t :: ts)) :=
  (pgs_cons h1 h2 hs).impM fun vs σ H Q ⟨en, h, wd, ds, en', e1, st, r, e, k⟩ => by
    subst e1
    cases ds with
    | nil => simp [bindTs] at e
    | cons d ds =>
      obtain ⟨v, vr, rfl, r1, r2⟩ := r.inv
      rw [bindTs] at e
      cases e2 : bindT t d en with
      | none => rw [e2] at e; cases e
      | some en1 =>
        rw [e2] at e
        refine ⟨v, vr, rfl, en, h, wd, d, en1, rfl, st, r1, e2, fun σ1 st1 h1 l1 => ?_⟩
        refine ⟨en1, h, wd, ds, en', rfl, st1, r2, e, fun σ2 st2 h2 l2 => ?_⟩
        refine k σ2 st2 (fun i hi => ?_) (l2.trans l1)
        rw [T.slotsL] at hi
        rw [List.mem_append, not_or] at hi
        exact (h2 i hi.2).trans (h1 i hi.1)
theorem bindTs_len : ∀ {ts : List T} {ds : List D} {en en' : MEnv}, bindTs ts ds en = some en' → ds.length = ts.length
  | [], [], _, _, _ => rfl
  | [], _ :: _, _, _, e => by simp [bindTs] at e
  | _ :: _, [], _, _, e => by simp [bindTs] at e
  | t :: ts, d :: ds, en, en', e => by
    rw [bindTs] at e
    cases e2 : bindT t d en with
    | none => rw [e2] at e; cases e
    | some en1 => rw [e2] at e; simp [bindTs_len e]
theorem rt_t {es : List Expr} {k : Nat} {ts : List T} (hc : X.calm = true) (h : PGs X es (RdTs (sy X L) ts)) (hn : (assignEach es X.env).length = ts.length) (hst : (assignEach es X.env).findIdx? (·.1) = none) : PG X (.Tuple es k pos) (RdT (sy X L) (.t ts)) :=
  (pg_tup (n := ts.length) hc h hn hst).impM fun v σ H Q ⟨en, h, wd, d, en', e1, st, r, e, k⟩ => by
    subst e1
    cases d with
    | tup xs =>
      rw [bindT] at e
      rw [RepV] at r
      obtain ⟨a, vs, rfl, r1, r2, r3⟩ := r
      refine ⟨a, vs, rfl, ?_, by rw [← r2.len]; exact bindTs_len e, en, h, wd, xs, en', rfl, st, r2, e, k⟩
      rcases r1 with ⟨_, r1⟩ | r1
      · exact .inl r1
      · exact .inr r1
    | _ => simp [bindT] at e
end

/-! ### a private object is changed -/
def Wd.put (a : Wd) (p : Addr) (o : HO) : Wd := { a with H := upd a.H p o }
theorem ExtF.put (a : Wd) {p : Addr} (o : HO) (h : ¬ a.Fz p) : ExtF a (a.put p o) := ⟨Nat.le_refl _, fun _ _ => rfl, fun _ h => h, fun x hx => upd_ne fun e => h (e ▸ hx)⟩
theorem Tabs.put {T : List (Addr × Str)} {H : Hp} {p : Addr} {o : HO} (t : LamX.Tabs T H) (hp : Pl (H p)) : LamX.Tabs T (upd H p o) := fun pq hpq => by
  obtain ⟨ps, h1, h2, h3⟩ := t pq hpq
  obtain ⟨u, e, n1, n2⟩ := hp
  refine ⟨ps, ?_, h2, fun pos cv hc => ?_⟩
  · rw [upd_ne fun z => by rw [z, e] at h1; exact n1 ps (Option.some.inj h1)]; exact h1
  · obtain ⟨c, ec, hc2⟩ := h3 pos cv hc
    exact ⟨c, ec, by rw [upd_ne fun z => by rw [z, e] at hc2; exact n2 _ _ (Option.some.inj hc2)]; exact hc2⟩
theorem WOk.put {a : Wd} (ok : WOk a) {p : Addr} {o : HO} (hp : Pl (a.H p)) (ho : ∀ ps, o ≠ .tbl ps) : WOk (a.put p o) := by
  have ne : ∀ x, a.H x ≠ none → upd a.H p o x ≠ none := fun x h => by
    by_cases q : x = p
    · subst q; rw [upd_same]; simp
    · rw [upd_ne q]; exact h
  have nt : ∀ x, Nt (a.H x) → Nt (upd a.H p o x) := fun x h => by
    by_cases q : x = p
    · subst q; exact nt_upd ho
    · rw [upd_ne q]; exact h
  refine ⟨fun x hx => ⟨nt x (ok.fz x hx).1, (ok.fz x hx).2⟩, fun n hn => nt _ (ok.hp n hn), ok.inj, Tabs.put ok.tabs hp⟩
theorem Ext.put {a b : Wd} (e : Ext a b) {p : Addr} {o : HO} (h : ¬ Nt (a.H p)) : Ext a (b.put p o) where
  z := e.z
  ρ := e.ρ
  new := e.new
  fz := e.fz
  fzn := e.fzn
  keep := fun x hx hn => (upd_ne fun z => h (by rw [← z]; exact hx)).trans (e.keep x hx hn)
  T := e.T
  live := fun x hx => by
    show Nt (upd b.H p o x)
    rw [upd_ne fun z => h (by rw [← z]; exact hx)]
    exact e.live x hx
section
variable {P : Program} {w : World} {K : PySem.W.Frag} {L : Ln}
theorem RepO.extF {a b : Wd} (e : ExtF a b) {x : Addr} {o : MObj} (k : b.H x = a.H x) (h : RepO P w K L a x o) : RepO P w K L b x o := by
  cases o with
  | lst ds => obtain ⟨vs, h1, h2, h3⟩ := h; exact ⟨vs, k.trans h1, h2.extF e, h3⟩
  | dct ks vs => obtain ⟨kk, vv, h1, h2, h3, h4, h5, h6⟩ := h; exact ⟨kk, vv, h1.ext' k, h2.extF e, h3.extF e, h4, h5, by rw [k]; exact h6⟩
  | ins c fs => obtain ⟨dx, fv, h1, h2, h3, h4⟩ := h; exact ⟨dx, fv, k.trans h1, h2, h3.extF e, h4⟩
theorem RepH.put {a : Wd} {h : AH} (r : RepH P w K L a h) {p : Addr} {o : HO} (h1 : ¬ a.Fz p) (h2 : ∀ n, n < a.z → p ≠ a.ρ n) : RepH P w K L (a.put p o) h :=
  ⟨r.1, fun n u e => (r.2 n u e).extF (ExtF.put a o h1) (upd_ne fun z => h2 n (by rw [← r.1]; exact (List.getElem?_eq_some_iff.mp e).1) z.symm)⟩
end

/-! ### comprehensions -/
section
variable (S : Sy) (call : CallT) (W : WX)
def RdOB (b : Option B) : TT := fun σ H Q => ∃ en h wd, wd.H = H ∧ Sat S wd σ en h ∧ Post S wd (fun c d => W c d σ) (GoodB S wd Q) (evOB S.L.g call b en h)
end
def W0 : WX := fun _ _ _ _ => False
theorem Post.nox {S : Sy} {wd : Wd} {α : Type} {good : α → AH → Prop} {r : R α} {W : Value → Option Addr → Hp → Prop} (p : match r with | .ok a h => good a h | _ => False) : Post S wd W good r := by
  cases r with
  | ok a h => exact p
  | exc c d h => exact p.elim
  | fail => exact p.elim
section
variable {X : Cx} {L : Ln} {call : CallT} {W : WX}
theorem compL_len {g : AH → Bool} {step : D → AH → R (Option D)} : ∀ {xs : List D} {h h' : AH} {r : List D}, compL g step xs h = .ok r h' → r.length ≤ xs.length
  | [], h, h', r, e => by rw [compL] at e; cases e; exact Nat.le_refl _
  | x :: xs, h, h', r, e => by
    rw [compL] at e
    cases e1 : step x h with
    | ok o h1 =>
      rw [e1] at e
      dsimp only at e
      cases e2 : g h1 with
      | false => rw [e2] at e; cases e
      | true =>
        rw [e2] at e
        simp only [if_true] at e
        cases e3 : compL g step xs h1 with
        | ok r2 h2 =>
          rw [e3] at e
          have := compL_len e3
          cases o with
          | none => cases e; exact Nat.le_succ_of_le this
          | some d => cases e; exact Nat.succ_le_succ this
        | exc c d h' => rw [e3] at e; cases e
        | fail => rw [e3] at e; cases e
    | exc c d h1 => rw [e1] at e; cases e
    | fail => rw [e1] at e; cases e
theorem compL_cons {g : AH → Bool} {step : D → AH → R (Option D)} {x : D} {xs : List D} {h h' : AH} {r : List D} (e : compL g step (x :: xs) h = .ok r h') :
    ∃ o h1 r2, step x h = .ok o h1 ∧ g h1 = true ∧ compL g step xs h1 = .ok r2 h' ∧ r = (match o with | some d => d :: r2 | none => r2) := by
  rw [compL] at e
  cases e1 : step x h with
  | ok o h1 =>
    rw [e1] at e
    dsimp only at e
    cases e2 : g h1 with
    | false => rw [e2] at e; cases e
    | true =>
      rw [e2] at e
      simp only [if_true] at e
      cases e3 : compL g step xs h1 with
      | ok r2 h2 =>
        rw [e3] at e
        cases e
        exact ⟨o, h1, r2, rfl, e2, e3, rfl⟩
      | exc c d h' => rw [e3] at e; cases e
      | fail => rw [e3] at e; cases e
  | exc c d h1 => rw [e1] at e; cases e
  | fail => rw [e1] at e; cases e
theorem same_trans {gd : Option Nat} {a b c : AH} (h1 : same gd a b = true) (h2 : same gd a c = true) : True := trivial
/-- the reading of a comprehension -/
theorem lc_reading {iter tg elt : Expr} {i' : I} {own : List (Str × Nat)} {t : T} {cond : Option B} {e' : E} {σ : L2.St} {H : Hp} {Q : VK} (hsl : ∀ j ∈ t.slots, j ∈ own.map (·.2))
    (q : RdF (sy X L) call W (.lc (own.map (·.2)) t i' cond e') σ H Q) : tLc (RdI (sy X L) call W i') (RdT (sy X L) t) (RdOB (sy X L) call W0 cond) (RdV (sy X L) call W0 e') (own.map (·.2)) σ H Q := by
  obtain ⟨en, h, wd, e1, st, p⟩ := q
  subst e1
  rw [evF] at p
  generalize hvs : own.map (·.2) = vs at hsl p ⊢
  refine ⟨en, h, wd, rfl, st, p.bind.mono fun xs h1 g J wd1 x1 ok1 rh1 hlen wk _ => fun Dd hD => ?_⟩
  generalize hstep : (fun x h => match bindT t x (wipe en vs) with
      | some en' => (evOB (sy X L).L.g call cond en' h).bind fun c h => match c with
        | true => if isOwn e' en' then .fail else (evE (sy X L).L.g call e' en' h).bind fun d h => .ok (some d) h
        | false => .ok none h
      | none => .fail : D → AH → R (Option D)) = step at g
  have g := g.bind
  cases ec : compL (same xs.2 h1) step xs.1 h1 with
  | exc c d h2 =>
    -- no exception leaves a comprehension
    exfalso
    have : ∀ (ys : List D) (a : AH), compL (same xs.2 h1) step ys a ≠ .exc c d h2 := by
      intro ys
      induction ys with
      | nil => intro a z; rw [compL] at z; cases z
      | cons y ys ih =>
        intro a z
        rw [compL] at z
        cases e1 : step y a with
        | ok o h3 =>
          rw [e1] at z
          dsimp only at z
          cases e2 : same xs.2 h1 h3 with
          | false => rw [e2] at z; cases z
          | true =>
            rw [e2] at z
            simp only [if_true] at z
            cases e3 : compL (same xs.2 h1) step ys h3 with
            | ok r2 h4 => rw [e3] at z; cases z
            | exc c d h' => rw [e3] at z; cases z
            | fail => rw [e3] at z; cases z
        | exc c d h3 => rw [e1] at z; cases z
        | fail => rw [e1] at z; cases z
    exact this _ _ ec
  | fail => rw [ec] at g; exact g.elim
  | ok r hf =>
    rw [ec] at g
    have g : GoodF (sy X L) wd Q (.lst r) hf := g
    have st1 := st.ext x1 ok1 rh1
    have stw : RepE X.prog X.w X.K L wd1 (L2.wipe σ vs) (wipe en vs) := wipe_rep vs st1.re
    have rlen := compL_len ec
    refine ⟨fun i m H => m = xs.1.length - i ∧ i ≤ xs.1.length ∧ ∃ (wi : Wd) (hi : AH) (ds rest : List D) (acc : List V), wi.H = H ∧ Ext wd1 wi ∧ WOk wi ∧ RepH X.prog X.w X.K L wi hi ∧ wi.H Dd = some (.lst acc) ∧ RepVs X.prog X.w X.K L wi ds acc ∧
      ¬ wi.Fz Dd ∧ (∀ n, n < wi.z → Dd ≠ wi.ρ n) ∧ same xs.2 h1 hi = true ∧ compL (same xs.2 h1) step (xs.1.drop i) hi = .ok rest hf ∧ ds ++ rest = r ∧ ds.length ≤ i, ⟨_, rfl, Nat.zero_le _, ?_⟩, ?_⟩
    · have fr := lay_free ok1 hD
      exact ⟨wd1.lay Dd (.lst []), h1, [], r, [], rfl, Ext.lay wd1 hD, ok1.lay hD, rh1.lay ok1 hD, upd_same, .nil, fr.1, fr.2, same_refl _ _, by simpa using ec, rfl, Nat.le_refl _⟩
    · rintro i m H ⟨rfl, hi, wi, hh, ds, rest, acc, rfl, xi, oki, rhi, hDi, rds, nfz, nρ, sm, ec', er, dl⟩
      obtain ⟨wgo, wstop⟩ := wk i wi hh xi oki rhi sm
      by_cases hlt : i < xs.1.length
      · refine .inr ⟨(wgo hlt).1, fun H' => ∃ m', m' < xs.1.length - i ∧ m' = xs.1.length - (i + 1) ∧ i + 1 ≤ xs.1.length ∧ ∃ (wi : Wd) (hi : AH) (ds rest : List D) (acc : List V), wi.H = H' ∧ Ext wd1 wi ∧ WOk wi ∧ RepH X.prog X.w X.K L wi hi ∧ wi.H Dd = some (.lst acc) ∧ RepVs X.prog X.w X.K L wi ds acc ∧
          ¬ wi.Fz Dd ∧ (∀ n, n < wi.z → Dd ≠ wi.ρ n) ∧ same xs.2 h1 hi = true ∧ compL (same xs.2 h1) step (xs.1.drop (i + 1)) hi = .ok rest hf ∧ ds ++ rest = r ∧ ds.length ≤ i + 1, fun H' ⟨m', a, b⟩ => ⟨m', a, b⟩, fun x H' y => ?_⟩
        obtain ⟨w2, d, hd, eH, x2, ok2, rh2, rd⟩ := (wgo hlt).2 x H' y
        subst eH
        rw [List.drop_eq_getElem_cons hlt] at ec'
        have edx : xs.1[i] = d := by
          rw [List.getElem?_eq_getElem hlt] at hd
          exact Option.some.inj hd
        rw [edx] at ec'
        obtain ⟨o, h3, r2, es, sm3, ec2, er2⟩ := compL_cons ec'
        rw [← hstep] at es
        dsimp only at es
        cases eb : bindT t d (wipe en vs) with
        | none => rw [eb] at es; cases es
        | some en' =>
          rw [eb] at es
          dsimp only at es
          have xA := xi.trans x2
          have st2 : Sat (sy X L) w2 (L2.wipe σ vs) (wipe en vs) hh := ⟨ok2, rh2, stw.ext xA ok1⟩
          -- Dd through an evaluation
          have Dk : ∀ {w3 : Wd}, Ext w2 w3 → w3.H Dd = some (.lst acc) ∧ ¬ w3.Fz Dd ∧ (∀ n, n < w3.z → Dd ≠ w3.ρ n) ∧ RepVs X.prog X.w X.K L w3 ds acc := fun {w3} x3 => by
            have x23 := x2.trans x3
            have hne : Nt (wi.H Dd) := ⟨_, hDi, fun _ z => nomatch z⟩
            refine ⟨(x23.keep Dd ⟨_, hDi, fun _ z => nomatch z⟩ nρ).trans hDi, fun f => ?_, fun n hn z => ?_, rds.ext x23 oki⟩
            · rcases x23.fzn Dd f with q | q
              · exact nfz q
              · exact q hne
            · by_cases q : n < wi.z
              · exact nρ n q (by rw [z, x23.ρ n q])
              · have := x23.new n (by omega) hn
                rw [← z] at this
                exact this hne
          refine ⟨wipe en vs, hh, w2, d, en', rfl, st2, rd, eb, fun σ2 stσ hσ lσ => ⟨?_, ?_⟩⟩
          · have := wipe_eq (vs := vs) (σ := L2.wipe σ vs) (σ' := σ2) lσ (fun i hi => hσ i fun z => hi (hsl i z))
            rw [this]
            have wi2 : ∀ (l : List Nat) (a : L2.St) (i : Nat), (L2.wipe a l)[i]? = if i ∈ l then (if i < a.length then some none else none) else a[i]? := by
              intro l
              induction l with
              | nil => intro a i; simp [L2.wipe]
              | cons c l ih =>
                intro a i
                show ((L2.wipe a l).set c none)[i]? = _
                by_cases q : c = i
                · subst q
                  simp [List.getElem?_set, L2.wipe_length]
                · rw [List.getElem?_set_ne q, ih]
                  have : i ≠ c := Ne.symm q
                  simp [this]
            refine List.ext_getElem? fun i => ?_
            rw [wi2, wi2, wi2]
            by_cases q : i ∈ vs
            · simp [q, L2.wipe_length]
            · simp [q]
          · cases eo : evOB L.g call cond en' hh with
            | exc c d h' => rw [eo] at es; cases es
            | fail => rw [eo] at es; cases es
            | ok c h4 =>
              rw [eo] at es
              dsimp only [R.bind] at es
              refine ⟨en', hh, w2, rfl, stσ, ?_⟩
              show Post (sy X L) w2 _ _ (evOB L.g call cond en' hh)
              rw [eo]
              intro w4 x4 ok4 rh4
              cases c with
              | false =>
                refine iteF ?_
                cases es
                obtain ⟨k1, k2, k3, k4⟩ := Dk x4
                exact ⟨_, by omega, rfl, hlt, w4, h3, ds, r2, acc, rfl, xA.trans x4, ok4, rh4, k1, k4, k2, k3, sm3, ec2, by rw [← er, er2], Nat.le_succ_of_le dl⟩
              | true =>
                refine iteT ?_
                cases eow : isOwn e' en' with
                | true => simp [eow] at es
                | false =>
                  simp only [eow, Bool.false_eq_true, if_false] at es
                  cases ee : evE L.g call e' en' h4 with
                  | exc c d h' => rw [ee] at es; cases es
                  | fail => rw [ee] at es; cases es
                  | ok y h5 =>
                    rw [ee] at es
                    cases es
                    refine ⟨en', h4, w4, rfl, stσ.ext x4 ok4 rh4, ?_⟩
                    show Post (sy X L) w4 _ _ (evV L.g call e' en' h4)
                    unfold evV
                    rw [eow]
                    simp only [Bool.false_eq_true, if_false]
                    rw [ee]
                    intro v w5 x5 ok5 rh5 r5
                    have r5 : RepV X.prog X.w X.K L w5 y v := r5
                    obtain ⟨k1, k2, k3, k4⟩ := Dk (x4.trans x5)
                    have al : acc.length < sizeLine := by
                      rw [← rds.len, sizeLine_eq]
                      have : xs.1.length ≤ 16777216 := hlen
                      omega
                    refine ⟨acc, k1, al, _, by omega, rfl, hlt, w5.put Dd (.lst (acc ++ [v])), h3, ds ++ [y], r2, acc ++ [v], rfl, ((xA.trans x4).trans x5).put (fun z => z.ne hD), ok5.put ⟨_, k1, (fun _ z => nomatch z), fun _ _ z => by have z : HO.lst _ = .ext _ := z; cases z⟩ (fun _ z => nomatch z), rh5.put k2 k3, upd_same, (k4.app (.cons r5 .nil)).extF (ExtF.put w5 _ k2), k2, k3, sm3, ec2, ?_, ?_⟩
                    · rw [← er, er2]; simp
                    · simp; omega
      · have hi' : i = xs.1.length := by omega
        refine .inl ⟨wstop hi', ?_⟩
        rw [hi', List.drop_length, compL] at ec'
        cases ec'
        simp only [List.append_nil] at er
        subst er
        exact g Dd wi (x1.trans xi) oki rhi ⟨⟨_, rfl, acc, hDi, rds, by have : xs.1.length ≤ 16777216 := hlen; unfold most; omega⟩, nfz, nρ⟩ (fun z => (x1.live Dd z).ne hD)
theorem rf_lc {iter tg elt : Expr} {ifs : List Expr} {scope : Scope} {own : List (Str × Nat)} {pos : Pos} {i' : I} {t : T} {cond : Option B} {e' : E} (hc : X.calm = true) (hN : X.N.Nodup) (hi : PI X tg iter (RdI (sy X L) call W i')) (ok : BlkOk X.N X.env.scope scope own)
    (hg : ∀ (s : Shared) (H : Hp) (C : Addr) (cl : List (Str × Addr)) (fp : List Addr), PG (X.blk s H scope (compEnvC scope cl C X.env) fp) tg (RdT (sy X L) t))
    (ht : ∀ (s : Shared) (H : Hp) (C : Addr) (cl : List (Str × Addr)) (fp : List Addr), PTs (X.blk s H scope (compEnvC scope cl C X.env) fp) ifs (RdOB (sy X L) call W0 cond))
    (he : ∀ (s : Shared) (H : Hp) (C : Addr) (cl : List (Str × Addr)) (fp : List Addr), PE (X.blk s H scope (compEnvC scope cl C X.env) fp) elt (RdV (sy X L) call W0 e'))
    (hsl : ∀ j ∈ t.slots, j ∈ own.map (·.2)) (hs : ∀ x, foldedSetIterable iter X.env x = pure x) :
    PE X (.ListComp elt [⟨tg, iter, ifs, 0⟩] scope pos) (RdF (sy X L) call W (.lc (own.map (·.2)) t i' cond e')) :=
  (pe_lc hc hN hi ok hg ht he hs).impM fun σ H Q q => lc_reading (iter := iter) (tg := tg) (elt := elt) hsl q
theorem rob_none : PTs X [] (RdOB (sy X L) call W none) := ⟨fun pins s σ H Q I ⟨en, h, wd, e1, st, p⟩ => by
  subst e1
  rw [evOB] at p
  exact pts_nil.run pins s σ _ Q I (p wd (Ext.refl _) st.ok st.rh)⟩
theorem rob_some {c : Expr} {b : B} (hb : PT X c (RdB (sy X L) call W b)) : PTs X [c] (RdOB (sy X L) call W (some b)) := ⟨fun pins s σ H Q I ⟨en, h, wd, e1, st, p⟩ => by
  subst e1
  rw [evOB] at p
  exact (pts_one hb).run pins s σ _ Q I ⟨en, h, wd, rfl, st, p⟩⟩
end
end Mi
end
section
set_option Elab.async false
set_option linter.all false
set_option maxRecDepth 100000
set_option maxHeartbeats 4000000
/-! Statements. -/
namespace Mi
open PySem L2

/-- owned objects are younger than the frame -/
def OwnNew (w0 : Wd) (σ : L2.St) (en : MEnv) : Prop := ∀ (i : Nat) d p, en[i]? = some (.o d) → σ[i]? = some (some (.ref p)) → ¬ Nt (w0.H p)
section
variable (S : Sy)
structure Frm (w0 wd : Wd) (σ : L2.St) (en : MEnv) (h : AH) : Prop where
  st : Sat S wd σ en h
  ex : Ext w0 wd
  on : OwnNew w0 σ en
def PostS (w0 wd : Wd) (W : WX) (D : Ends) : R Fl → Prop
  | .ok (.nx en) h => ∀ σ wd', Frm S w0 wd' σ en h → ExtF wd wd' → D.nx σ wd'.H
  | .ok (.bk en) h => ∀ σ wd', Frm S w0 wd' σ en h → ExtF wd wd' → D.bk σ wd'.H
  | .ok (.ct en) h => ∀ σ wd', Frm S w0 wd' σ en h → ExtF wd wd' → D.ct σ wd'.H
  | .ok (.rt d) h => ∀ v wd', Ext w0 wd' → WOk wd' → RepH S.P S.w S.K S.L wd' h → RepV S.P S.w S.K S.L wd' d v → D.rt v wd'.H
  | .exc c d h => ∀ σ wd' dx v, Ext w0 wd' → WOk wd' → RepH S.P S.w S.K S.L wd' h → RepV S.P S.w S.K S.L wd' d v → wd'.H dx = some (.xd [(("value" : Str), v)]) → W (.ref (S.L.cad c)) (some dx) σ wd'.H
  | .fail => False
/-- the reading of a statement, of a block; w0: the frame's entry -/
def RdX (w0 : Wd) (W : WX) (ev : MEnv → AH → R Fl) : TS := fun D σ H => ∃ en h wd, wd.H = H ∧ Frm S w0 wd σ en h ∧ PostS S w0 wd W D (ev en h)
end
section
variable {X : Cx} {L : Ln} {call : CallT} {W : WX} {w0 : Wd}
theorem _root_.L2.PS.impM {st : Stmt} {t t' : TS} (h : PS X st t) (k : ∀ D σ H, t' D σ H → t D σ H) : PS X st t' := ⟨fun pins s σ H D I q => h.run pins s σ H D I (k _ _ _ q)⟩
theorem _root_.L2.PSs.impM {st : List Stmt} {t t' : TS} (h : PSs X st t) (k : ∀ D σ H, t' D σ H → t D σ H) : PSs X st t' := ⟨fun pins s σ H D I q => h.run pins s σ H D I (k _ _ _ q)⟩
theorem Frm.ext {wd wd1 : Wd} {σ : L2.St} {en : MEnv} {h h1 : AH} {S : Sy} (f : Frm S w0 wd σ en h) (e : Ext wd wd1) (st : Sat S wd1 σ en h1) : Frm S w0 wd1 σ en h1 := ⟨st, f.ex.trans e, f.on⟩
theorem PostS.mono {S : Sy} {wd : Wd} {D D' : Ends} {r : R Fl} (p : PostS S w0 wd W D r) (h1 : ∀ σ H, D.nx σ H → D'.nx σ H) (h2 : ∀ v H, D.rt v H → D'.rt v H) (h3 : ∀ σ H, D.bk σ H → D'.bk σ H) (h4 : ∀ σ H, D.ct σ H → D'.ct σ H) : PostS S w0 wd W D' r := by
  cases r with
  | ok f h =>
    cases f with
    | nx en => exact fun σ wd' f e => h1 _ _ (p σ wd' f e)
    | rt d => exact fun v wd' a b c d => h2 _ _ (p v wd' a b c d)
    | bk en => exact fun σ wd' f e => h3 _ _ (p σ wd' f e)
    | ct en => exact fun σ wd' f e => h4 _ _ (p σ wd' f e)
  | exc c d h => exact p
  | fail => exact p
theorem PostS.ext {S : Sy} {wd wd1 : Wd} {D : Ends} {r : R Fl} (p : PostS S w0 wd W D r) (e : ExtF wd wd1) : PostS S w0 wd1 W D r := by
  cases r with
  | ok f h =>
    cases f with
    | nx en => exact fun σ wd' f x => p σ wd' f (e.trans x)
    | rt d => exact p
    | bk en => exact fun σ wd' f x => p σ wd' f (e.trans x)
    | ct en => exact fun σ wd' f x => p σ wd' f (e.trans x)
  | exc c d h => exact p
  | fail => exact p
/-- an expression in a statement -/
theorem post_exc {S : Sy} {wd : Wd} {α : Type} {D : Ends} {σ : L2.St} {r : R α} {f : α → AH → R Fl} (x : Ext w0 wd) (p : PostS S w0 wd W D (r.bind f)) : Post S wd (fun c d => W c d σ) (fun a h => PostS S w0 wd W D (f a h)) r := by
  cases r with
  | ok a h => exact p
  | exc c d h => exact fun wd' dx v x1 ok rh rv hd => p σ wd' dx v (x.trans x1) ok rh rv hd
  | fail => exact p

theorem ss_nil : PSs X [] (RdX (sy X L) w0 W (evSs L.g call .nil)) := pss_nil.impM fun D σ H ⟨en, h, wd, e1, f, p⟩ => by
  subst e1
  rw [evSs] at p
  exact p σ wd f (ExtF.refl _)
theorem seq_imp {s : S} {ss : Ss} {D : Ends} {σ : L2.St} {H : Hp} (q : RdX (sy X L) w0 W (evSs L.g call (.cons s ss)) D σ H) : tSeq (RdX (sy X L) w0 W (evS L.g call s)) (RdX (sy X L) w0 W (evSs L.g call ss)) D σ H := by
  obtain ⟨en, h, wd, e1, f, p⟩ := q
  subst e1
  rw [evSs] at p
  refine ⟨en, h, wd, rfl, f, ?_⟩
  cases e : evS L.g call s en h with
  | ok fl h1 =>
    rw [e] at p
    cases fl with
    | nx en1 => exact fun σ1 wd1 f1 x1 => ⟨en1, h1, wd1, rfl, f1, PostS.ext p x1⟩
    | rt d => exact p
    | bk en1 => exact p
    | ct en1 => exact p
  | exc c d h1 => rw [e] at p; exact p
  | fail => rw [e] at p; exact p
theorem ss_cons {st : Stmt} {rest : List Stmt} {s : S} {ss : Ss} (h1 : PS X st (RdX (sy X L) w0 W (evS L.g call s))) (h2 : PSs X rest (RdX (sy X L) w0 W (evSs L.g call ss))) : PSs X (st :: rest) (RdX (sy X L) w0 W (evSs L.g call (.cons s ss))) :=
  (pss_cons h1 h2).impM fun D σ H q => seq_imp q
/-- an owned container becomes a value -/
theorem frz_frm {S : Sy} {wd : Wd} {σ : L2.St} {en : MEnv} {h : AH} {i : Nat} {d : D} (f : Frm S w0 wd σ en h) (e : en[i]? = some (.o d)) : ∃ wd', wd'.H = wd.H ∧ Frm S w0 wd' σ (en.set i (.v d)) h ∧ ExtF wd wd' := by
  have hi := (List.getElem?_eq_some_iff.mp e).1
  have hσ : i < σ.length := by rw [← f.st.re.len]; exact hi
  obtain ⟨p, hp, ow⟩ := f.st.re.at_ i _ _ e (List.getElem?_eq_getElem hσ)
  have hp' : σ[i]? = some (some (.ref p)) := by rw [List.getElem?_eq_getElem hσ, hp]
  have np := f.on i d p e hp'
  have x2 := f.ex.frz np
  have ok2 := f.st.ok.frz ow.pl.nt ow.2.2
  have sb := Sub.frz wd p
  refine ⟨wd.frz p, rfl, ⟨⟨ok2, f.st.rh.frz p, ⟨by rw [List.length_set, f.st.re.len], fun j s v h1 h2 => ?_, f.st.re.tb, fun j k a b q h1 h2 h3 h4 => ?_⟩⟩, x2, fun j a q h1 h2 => ?_⟩, ⟨Nat.le_refl _, fun _ _ => rfl, fun _ h => .inl h, fun _ _ => rfl⟩⟩
  · by_cases q : i = j
    · subst q
      rw [List.getElem?_set_self hi] at h1
      cases h1
      rw [hp'] at h2
      cases h2
      exact ⟨.ref p, rfl, own_frz ow⟩
    · rw [List.getElem?_set_ne q] at h1
      have r := f.st.re.at_ j s v h1 h2
      cases s with
      | un => trivial
      | v a => obtain ⟨x, e1, e2⟩ := r; exact ⟨x, e1, e2.sub sb⟩
      | o a =>
        obtain ⟨x, e1, ⟨⟨o, e2, e3⟩, e4, e5⟩⟩ := r
        refine ⟨x, e1, ⟨⟨o, e2, e3.sub sb⟩, fun z => ?_, e5⟩⟩
        rcases z with z | z
        · exact e4 z
        · subst z
          exact q (f.st.re.own i j d a x e h1 hp' (by rw [h2, e1]))
  · have n1 : i ≠ j := fun z => by subst z; rw [List.getElem?_set_self hi] at h1; cases h1
    have n2 : i ≠ k := fun z => by subst z; rw [List.getElem?_set_self hi] at h2; cases h2
    rw [List.getElem?_set_ne n1] at h1
    rw [List.getElem?_set_ne n2] at h2
    exact f.st.re.own j k a b q h1 h2 h3 h4
  · have n1 : i ≠ j := fun z => by subst z; rw [List.getElem?_set_self hi] at h1; cases h1
    rw [List.getElem?_set_ne n1] at h1
    exact f.on j a q h1 h2
theorem ss_frz {rest : List Stmt} {i : Nat} {ss : Ss} (h2 : PSs X rest (RdX (sy X L) w0 W (evSs L.g call ss))) : PSs X rest (RdX (sy X L) w0 W (evSs L.g call (.cons (.frz i) ss))) := h2.impM fun D σ H ⟨en, h, wd, e1, f, p⟩ => by
  subst e1
  rw [evSs, evS] at p
  cases e : en[i]? with
  | none => rw [e] at p; exact p.elim
  | some s =>
    rw [e] at p
    cases s with
    | un => exact p.elim
    | v d => exact p.elim
    | o d =>
      obtain ⟨wd', eH, f', x⟩ := frz_frm f e
      exact ⟨_, h, wd', eH, f', PostS.ext p x⟩

/-! ### small statements -/
theorem rs_ex {st : Stmt} {e : E} {te : TE} (h : PS X st (tDrop te)) (ht : ∀ σ H Q, RdE (sy X L) call W e σ H Q → te σ H Q) : PS X st (RdX (sy X L) w0 W (evS L.g call (.ex e))) := h.impM fun D σ H ⟨en, h, wd, e1, f, p⟩ => by
  subst e1
  rw [evS] at p
  exact ht _ _ _ (rdE_step f.st (post_exc f.ex p) fun d h1 v wd1 g x1 st1 _ _ => g σ wd1 (f.ext x1 st1) (x1.f f.st.ok))
theorem on_set {σ : L2.St} {en : MEnv} {i : Nat} {d : D} {o : Option V} (h : OwnNew w0 σ en) : OwnNew w0 (σ.set i o) (en.set i (.v d)) := fun j a p h1 h2 => by
  have n1 : i ≠ j := fun z => by
    subst z
    have l1 := (List.getElem?_eq_some_iff.mp h1).1
    rw [List.getElem?_set_self (by simpa using l1)] at h1
    cases h1
  rw [List.getElem?_set_ne n1] at h1 h2
  exact h j a p h1 h2
theorem rs_set {st : Stmt} {e : E} {te : TE} {i : Nat} (h : PS X st (tAsg te (gName i))) (ht : ∀ σ H Q, RdV (sy X L) call W e σ H Q → te σ H Q) : PS X st (RdX (sy X L) w0 W (evS L.g call (.set i e))) := h.impM fun D σ H ⟨en, h, wd, e1, f, p⟩ => by
  subst e1
  rw [evS] at p
  refine ht _ _ _ ⟨en, h, wd, rfl, f.st, (post_exc f.ex p).mono fun d h1 g v wd1 x1 ok1 rh1 r => ?_⟩
  have r : RepV X.prog X.w X.K L wd1 d v := r
  have st1 := f.st.ext x1 ok1 rh1
  exact g _ wd1 ⟨⟨ok1, rh1, st1.re.set r⟩, f.ex.trans x1, on_set f.on⟩ (x1.f f.st.ok)
/-- a fresh container under a name, owned -/
theorem RepE.setO {P : Program} {w : World} {K : PySem.W.Frag} {wd : Wd} {σ : L2.St} {en : MEnv} {i : Nat} {d : D} {p : Addr} (r : RepE P w K L wd σ en) (ow : Own P w K L wd d p) (hn : ∀ (j : Nat) e, en[j]? = some (.o e) → σ[j]? = some (some (.ref p)) → j = i) : RepE P w K L wd (σ.set i (some (.ref p))) (en.set i (.o d)) := by
  refine ⟨by simp [r.len], fun j s u h1 h2 => ?_, r.tb, fun j k d1 d2 q h1 h2 h3 h4 => ?_⟩
  · by_cases z : i = j
    · subst z
      have l1 := (List.getElem?_eq_some_iff.mp h1).1
      have l2 := (List.getElem?_eq_some_iff.mp h2).1
      rw [List.getElem?_set_self (by simpa using l1)] at h1
      rw [List.getElem?_set_self (by simpa using l2)] at h2
      cases h1
      cases h2
      exact ⟨p, rfl, ow⟩
    · rw [List.getElem?_set_ne z] at h1 h2
      exact r.at_ j s u h1 h2
  · by_cases z : i = j
    · subst z
      have l2 := (List.getElem?_eq_some_iff.mp h3).1
      rw [List.getElem?_set_self (by simpa using l2)] at h3
      cases h3
      by_cases z2 : i = k
      · exact z2
      · rw [List.getElem?_set_ne z2] at h2 h4
        exact (hn k d2 h2 h4).symm
    · by_cases z2 : i = k
      · subst z2
        have l2 := (List.getElem?_eq_some_iff.mp h4).1
        rw [List.getElem?_set_self (by simpa using l2)] at h4
        cases h4
        rw [List.getElem?_set_ne z] at h1 h3
        exact hn j d1 h1 h3
      · rw [List.getElem?_set_ne z] at h1 h3
        rw [List.getElem?_set_ne z2] at h2 h4
        exact r.own j k d1 d2 q h1 h2 h3 h4
theorem rs_own {st : Stmt} {e : F} {te : TE} {i : Nat} (h : PS X st (tAsg te (gName i))) (ht : ∀ σ H Q, RdF (sy X L) call W e σ H Q → te σ H Q) : PS X st (RdX (sy X L) w0 W (evS L.g call (.own i e))) := h.impM fun D σ H ⟨en, h, wd, e1, f, p⟩ => by
  subst e1
  rw [evS] at p
  refine ht _ _ _ ⟨en, h, wd, rfl, f.st, (post_exc f.ex p).mono fun d h1 g a wd1 x1 ok1 rh1 ow hn => ?_⟩
  have st1 := f.st.ext x1 ok1 rh1
  have free : ∀ (j : Nat) e, en[j]? = some (.o e) → σ[j]? = some (some (.ref a)) → False := fun j e h1 h2 => by
    obtain ⟨p, hp, ow'⟩ := f.st.re.at_ j _ _ h1 h2
    cases hp
    exact hn ow'.pl.nt
  refine g _ wd1 ⟨⟨ok1, rh1, st1.re.setO ow fun j e h1 h2 => (free j e h1 h2).elim⟩, f.ex.trans x1, fun j d p h1 h2 => ?_⟩ (x1.f f.st.ok)
  by_cases z : i = j
  · subst z
    have l2 := (List.getElem?_eq_some_iff.mp h2).1
    rw [List.getElem?_set_self (by simpa using l2)] at h2
    cases h2
    exact fun z => hn (f.ex.live a z)
  · rw [List.getElem?_set_ne z] at h1 h2
    exact f.on j d p h1 h2
theorem fr_imp {f : F} {σ : L2.St} {H : Hp} {Q : VK} (q : RdV (sy X L) call W (.fr f) σ H Q) : RdF (sy X L) call W f σ H Q := by
  obtain ⟨en, h, wd, e1, st, p⟩ := q
  subst e1
  unfold evV at p
  simp only [isOwn, Bool.false_eq_true, if_false] at p
  rw [evE] at p
  refine ⟨en, h, wd, rfl, st, p.mono fun d h1 g a wd1 x1 ok1 rh1 o hn => ?_⟩
  exact g (.ref a) (wd1.frz a) (x1.frz hn) (ok1.frz o.pl.nt o.2.2) (rh1.frz a) (by simp; exact own_frz o)
theorem al_imp {f : F} {σ : L2.St} {H : Hp} {Q : VK} (q : RdV (sy X L) call W (.al f) σ H Q) : RdF (sy X L) call W f σ H Q := by
  obtain ⟨en, h, wd, e1, st, p⟩ := q
  subst e1
  unfold evV at p
  simp only [isOwn, Bool.false_eq_true, if_false] at p
  rw [evE] at p
  refine ⟨en, h, wd, rfl, st, p.bind.mono fun d h1 g a wd1 x1 ok1 rh1 o hn => ?_⟩
  obtain ⟨⟨ob, ho, hr⟩, nf, nr⟩ := id o
  rw [ho] at g
  refine g (.ref a) (wd1.num a) (x1.num hn) (ok1.num o.pl.nt nr nf) (rh1.num hr) ?_
  simp only [Bool.false_eq_true, if_false]
  rw [RepV]
  exact ⟨by rw [rh1.1]; exact Nat.lt_succ_self _, by
    show V.ref a = V.ref (if h1.length = wd1.z then a else wd1.ρ h1.length)
    rw [if_pos rh1.1]⟩
/-- a tuple of targets -/
theorem bind_own : ∀ (t : T) {d : D} {en en' : MEnv}, bindT t d en = some en' → ∀ (i : Nat) e, en'[i]? = some (.o e) → en[i]? = some (.o e) ∧ i ∉ t.slots := by
  intro t
  refine T.rec (motive_1 := fun t => ∀ {d : D} {en en' : MEnv}, bindT t d en = some en' → ∀ (i : Nat) e, en'[i]? = some (.o e) → en[i]? = some (.o e) ∧ i ∉ t.slots)
    (motive_2 := fun ts => ∀ {ds : List D} {en en' : MEnv}, bindTs ts ds en = some en' → ∀ (i : Nat) e, en'[i]? = some (.o e) → en[i]? = some (.o e) ∧ i ∉ T.slotsL ts) ?_ ?_ ?_ ?_ t
  · intro k d en en' h i e h1
    rw [bindT] at h
    cases h
    have n1 : k ≠ i := fun z => by
      subst z
      have l1 := (List.getElem?_eq_some_iff.mp h1).1
      rw [List.getElem?_set_self (by simpa using l1)] at h1
      cases h1
    rw [List.getElem?_set_ne n1] at h1
    exact ⟨h1, by simp [T.slots, Ne.symm n1]⟩
  · intro ts ih d en en' h i e h1
    cases d with
    | tup xs => rw [bindT] at h; have := ih h i e h1; rw [T.slots]; exact this
    | _ => simp [bindT] at h
  · intro ds en en' h i e h1
    cases ds with
    | nil => rw [bindTs] at h; cases h; exact ⟨h1, by simp [T.slotsL]⟩
    | cons d ds => simp [bindTs] at h
  · intro t ts ih1 ih2 ds en en' h i e h1
    cases ds with
    | nil => simp [bindTs] at h
    | cons d ds =>
      rw [bindTs] at h
      cases e2 : bindT t d en with
      | none => rw [e2] at h; cases h
      | some en1 =>
        rw [e2] at h
        obtain ⟨a1, a2⟩ := ih2 h i e h1
        obtain ⟨b1, b2⟩ := ih1 e2 i e a1
        exact ⟨b1, by rw [T.slotsL, List.mem_append, not_or]; exact ⟨b2, a2⟩⟩
theorem rs_unp {st : Stmt} {e : E} {te : TE} {t : T} (h : PS X st (tAsg te (RdT (sy X L) t))) (ht : ∀ σ H Q, RdV (sy X L) call W e σ H Q → te σ H Q) : PS X st (RdX (sy X L) w0 W (evS L.g call (.unp t e))) := h.impM fun D σ H ⟨en, h, wd, e1, f, p⟩ => by
  subst e1
  rw [evS] at p
  refine ht _ _ _ ⟨en, h, wd, rfl, f.st, (post_exc f.ex p).mono fun d h1 g v wd1 x1 ok1 rh1 r => ?_⟩
  have r : RepV X.prog X.w X.K L wd1 d v := r
  have st1 := f.st.ext x1 ok1 rh1
  cases eb : bindT t d en with
  | none => rw [eb] at g; exact g.elim
  | some en' =>
    rw [eb] at g
    refine ⟨en, h1, wd1, d, en', rfl, st1, r, eb, fun σ' st' hs hl => ?_⟩
    exact g σ' wd1 ⟨st', f.ex.trans x1, fun i a p h1 h2 => by
      obtain ⟨b1, b2⟩ := bind_own t eb i a h1
      exact f.on i a p b1 (by rw [← hs i b2]; exact h2)⟩ (x1.f f.st.ok)
theorem rs_aug {st : Stmt} {o : Bin} {e : E} {te : TE} {i : Nat} (h : PS X st (tAug i te (RV2 (sy X L) fun x y _ => binI o x y))) (ht : ∀ σ H Q, RdE (sy X L) call W e σ H Q → te σ H Q) : PS X st (RdX (sy X L) w0 W (evS L.g call (.aug i o e))) := h.impM fun D σ H ⟨en, h, wd, e1, f, p⟩ => by
  subst e1
  rw [evS] at p
  cases q : en[i]? with
  | none => rw [q] at p; exact p.elim
  | some s =>
    rw [q] at p
    cases s with
    | un => exact p.elim
    | o d => exact p.elim
    | v x =>
      have hi : i < σ.length := by rw [← f.st.re.len]; exact (List.getElem?_eq_some_iff.mp q).1
      obtain ⟨xv, hx, rx⟩ := f.st.re.at_ i _ _ q (List.getElem?_eq_getElem hi)
      refine ⟨xv, by rw [List.getElem?_eq_getElem hi, hx], ht _ _ _ (rdE_step f.st (post_exc f.ex p) fun d h1 v wd1 g x1 st1 r _ => ?_)⟩
      cases eb : binI o x d with
      | none => rw [eb] at g; exact g.elim
      | some z =>
        rw [eb] at g
        refine ⟨h1, wd1, x, d, rfl, st1.ok, st1.rh, .inl (rx.ext x1 f.st.ok), r, z, eb, fun u wd2 x2 ok2 rh2 r2 => ?_⟩
        have r2 : RepV X.prog X.w X.K L wd2 z u := r2
        have st2 := st1.ext x2 ok2 rh2
        exact g _ wd2 ⟨⟨ok2, rh2, st2.re.set r2⟩, f.ex.trans (x1.trans x2), on_set f.on⟩ ((x1.trans x2).f f.st.ok)
theorem rs_iff {c : Expr} {a b : List Stmt} {pos : Pos} {c' : B} {a' b' : Ss} (hc : PT X c (RdB (sy X L) call W c')) (ha : PSs X a (RdX (sy X L) w0 W (evSs L.g call a'))) (hb : PSs X b (RdX (sy X L) w0 W (evSs L.g call b'))) :
    PS X (.If c a b pos) (RdX (sy X L) w0 W (evS L.g call (.iff c' a' b'))) := (ps_if hc ha hb).impM fun D σ H ⟨en, h, wd, e1, f, p⟩ => by
  subst e1
  rw [evS] at p
  refine rdB_step f.st (post_exc f.ex p) fun k h1 wd1 g x1 st1 => ?_
  cases k with
  | true => exact iteT ⟨en, h1, wd1, rfl, f.ext x1 st1, PostS.ext g (x1.f f.st.ok)⟩
  | false => exact iteF ⟨en, h1, wd1, rfl, f.ext x1 st1, PostS.ext g (x1.f f.st.ok)⟩
/-- an expression that is no name -/
def E.nv : E → Bool
  | .v _ => false
  | _ => true
theorem E.nv_own {e : E} (h : e.nv = true) (en : MEnv) : isOwn e en = false := by
  cases e <;> first | rfl | cases h
theorem rs_ret {e : Expr} {e' : E} {pos : Pos} (he : PE X e (RdE (sy X L) call W e')) (nv : e'.nv = true) : PS X (.Return (some e) pos) (RdX (sy X L) w0 W (evS L.g call (.ret e'))) := (ps_ret he).impM fun D σ H ⟨en, h, wd, e1, f, p⟩ => by
  subst e1
  rw [evS] at p
  exact rdE_step f.st (post_exc f.ex p) fun d h1 v wd1 g x1 st1 r rv => g v wd1 (f.ex.trans x1) st1.ok st1.rh (rv (E.nv_own nv en))
theorem rs_retv {e : Expr} {i : Nat} {pos : Pos} (he : PE X e (tVar i)) : PS X (.Return (some e) pos) (RdX (sy X L) w0 W (evS L.g call (.ret (.v i)))) := (ps_ret he).impM fun D σ H ⟨en, h, wd, e1, f, p⟩ => by
  subst e1
  rw [evS, evE] at p
  cases ed : en[i]? with
  | none => rw [ed] at p; exact p.elim
  | some s =>
    have hi := (List.getElem?_eq_some_iff.mp ed).1
    have hσ : i < σ.length := by rw [← f.st.re.len]; exact hi
    have r := f.st.re.at_ i _ _ ed (List.getElem?_eq_getElem hσ)
    rw [ed] at p
    cases s with
    | un => exact p.elim
    | v d =>
      obtain ⟨v, e2, r⟩ := r
      exact ⟨v, by rw [List.getElem?_eq_getElem hσ, e2], p v wd f.ex f.st.ok f.st.rh r⟩
    | o d =>
      -- the owned container goes out
      obtain ⟨a, ha, ow⟩ := r
      have ha' : σ[i]? = some (some (.ref a)) := by rw [List.getElem?_eq_getElem hσ, ha]
      have np := f.on i d a ed ha'
      exact ⟨.ref a, ha', p (.ref a) (wd.frz a) (f.ex.frz np) (f.st.ok.frz ow.pl.nt ow.2.2) (f.st.rh.frz a) (own_frz ow)⟩
theorem rs_retn {pos : Pos} : PS X (.Return none pos) (RdX (sy X L) w0 W (evS L.g call .retn)) := ps_retN.impM fun D σ H ⟨en, h, wd, e1, f, p⟩ => by
  subst e1
  rw [evS] at p
  exact p .non wd f.ex f.st.ok f.st.rh (by rw [RepV])
theorem rs_brk {pos : Pos} : PS X (.Break pos) (RdX (sy X L) w0 W (evS L.g call .brk)) := ps_break.impM fun D σ H ⟨en, h, wd, e1, f, p⟩ => by
  subst e1
  rw [evS] at p
  exact p σ wd f (ExtF.refl _)
theorem rs_cnt {pos : Pos} : PS X (.Continue pos) (RdX (sy X L) w0 W (evS L.g call .cnt)) := ps_continue.impM fun D σ H ⟨en, h, wd, e1, f, p⟩ => by
  subst e1
  rw [evS] at p
  exact p σ wd f (ExtF.refl _)
theorem rs_pass {pos : Pos} : PS X (.Pass pos) (RdX (sy X L) w0 W (evS L.g call .pass)) := ps_pass.impM fun D σ H ⟨en, h, wd, e1, f, p⟩ => by
  subst e1
  rw [evS] at p
  exact p σ wd f (ExtF.refl _)
end
end Mi
end
section
set_option Elab.async false
set_option linter.all false
set_option maxRecDepth 100000
set_option maxHeartbeats 4000000
/-! Fields, loops, raises. -/
namespace Mi
open PySem L2

section
variable {P : Program} {w : World} {K : PySem.W.Frag} {L : Ln}
theorem Ext.hput {a : Wd} (ok : WOk a) {n : Nat} (hn : n < a.z) {o : HO} (ho : ∀ ps, o ≠ .tbl ps) : Ext a (a.put (a.ρ n) o) where
  z := Nat.le_refl _
  ρ := fun _ _ => rfl
  new := fun n h1 h2 => absurd (Nat.lt_of_lt_of_le h2 h1) (Nat.lt_irrefl _)
  fz := fun _ h => h
  fzn := fun _ h => .inl h
  keep := fun x hx h => upd_ne (h n hn)
  T := rfl
  live := fun x hx => by
    show Nt (upd a.H (a.ρ n) o x)
    by_cases q : x = a.ρ n
    · subst q; exact nt_upd ho
    · rw [upd_ne q]; exact hx
theorem not_fz {a : Wd} (ok : WOk a) {n : Nat} (hn : n < a.z) : ¬ a.Fz (a.ρ n) := fun f => (ok.fz _ f).2 n hn rfl
theorem RepH.hput {a : Wd} {h : AH} (ok : WOk a) (r : RepH P w K L a h) {n : Nat} (hn : n < a.z) {o : HO} {ob : MObj} (ro : RepO P w K L (a.put (a.ρ n) o) (a.ρ n) ob) : RepH P w K L (a.put (a.ρ n) o) (h.set n ob) := by
  refine ⟨by rw [List.length_set]; exact r.1, fun m u e => ?_⟩
  by_cases q : n = m
  · subst q
    have l := (List.getElem?_eq_some_iff.mp e).1
    rw [List.getElem?_set_self (by simpa using l)] at e
    cases e
    exact ro
  · rw [List.getElem?_set_ne q] at e
    have hm : m < a.z := by rw [← r.1]; exact (List.getElem?_eq_some_iff.mp e).1
    exact (r.2 m u e).extF (ExtF.put a o (not_fz ok hn)) (upd_ne fun z => q (ok.inj m n hm hn z).symm)
theorem put_fv {fs : List (Nat × D)} {wd : Wd} {k : Nat} {d : D} {v : V} (hinj : ∀ i j, L.an i = L.an j → i = j) (rv : RepV P w K L wd d v) : ∀ {fv : List (Str × V)} (_ : fv.map (·.1) = fs.map (fun p => L.an p.1)) (_ : RepVs P w K L wd (fs.map (·.2)) (fv.map (·.2))),
    (putF (L.an k) v fv).map (·.1) = (fput fs k d).map (fun p => L.an p.1) ∧ RepVs P w K L wd ((fput fs k d).map (·.2)) ((putF (L.an k) v fv).map (·.2)) := by
  induction fs with
  | nil =>
    intro fv h1 h2
    have : fv = [] := by simpa using congrArg List.length h1
    subst this
    exact ⟨rfl, .cons rv .nil⟩
  | cons p fs ih =>
    obtain ⟨i, d0⟩ := p
    intro fv h1 h2
    cases fv with
    | nil => simp at h1
    | cons q fv =>
      obtain ⟨y, v0⟩ := q
      simp only [List.map_cons, List.cons.injEq] at h1
      obtain ⟨h1, h1'⟩ := h1
      obtain ⟨v', r, e1, r1, r2⟩ := RepVs.inv h2
      simp only [List.map_cons, List.cons.injEq] at e1
      obtain ⟨e1, e2⟩ := e1
      subst e1 e2
      have h1 : y = L.an i := h1
      subst h1
      by_cases q : i = k
      · subst q
        simp only [putF, fput, if_true]
        exact ⟨by simp [h1'], .cons rv r2⟩
      · have nq : ¬ L.an i = L.an k := fun z => q (hinj _ _ z)
        obtain ⟨a, b⟩ := ih h1' r2
        simp only [putF, fput, q, nq, if_false]
        exact ⟨by simp [a], .cons r1 b⟩
theorem fput_mem {fs : List (Nat × D)} {k : Nat} {d : D} : ∀ p ∈ fput fs k d, p.1 = k ∨ ∃ q ∈ fs, q.1 = p.1 := by
  induction fs with
  | nil => intro p hp; simp [fput] at hp; exact .inl (by rw [hp])
  | cons q fs ih =>
    obtain ⟨i, d0⟩ := q
    intro p hp
    by_cases h : i = k
    · simp only [fput, h, if_true] at hp
      rcases List.mem_cons.mp hp with e | hp
      · exact .inl (by rw [e])
      · exact .inr ⟨p, List.mem_cons_of_mem _ hp, rfl⟩
    · simp only [fput, h, if_false] at hp
      rcases List.mem_cons.mp hp with e | hp
      · exact .inr ⟨(i, d0), List.mem_cons_self, by rw [e]⟩
      · rcases ih p hp with e | ⟨q, hq, e⟩
        · exact .inl e
        · exact .inr ⟨q, List.mem_cons_of_mem _ hq, e⟩
end

section
variable {X : Cx} {L : Ln} {call : CallT} {W : WX} {w0 : Wd}
/-- a field of an instance is written -/
theorem fld_put {wd : Wd} {σ : L2.St} {en : MEnv} {h : AH} {n c k : Nat} {fs : List (Nat × D)} {dx : Addr} {fv : List (Str × V)} {d : D} {v : V} (hinj : ∀ i j, L.an i = L.an j → i = j) (hna : NoAttr X.K (L.cad c) (L.an k))
    (st : Sat (sy X L) wd σ en h) (q : h[n]? = some (.ins c fs)) (rv : RepV X.prog X.w X.K L wd d v) (a1 : wd.H (wd.ρ n) = some (.ins (L.cad c) dx fv)) :
    Ext wd (wd.put (wd.ρ n) (.ins (L.cad c) dx (putF (L.an k) v fv))) ∧ Sat (sy X L) (wd.put (wd.ρ n) (.ins (L.cad c) dx (putF (L.an k) v fv))) σ en (h.set n (.ins c (fput fs k d))) := by
  have hn : n < wd.z := by rw [← st.rh.1]; exact (List.getElem?_eq_some_iff.mp q).1
  have x := Ext.hput st.ok hn (o := .ins (L.cad c) dx (putF (L.an k) v fv)) (fun _ z => nomatch z)
  obtain ⟨dx', fv', b1, b2, b3, b4, b5⟩ := st.rh.2 n _ q
  rw [a1] at b1
  cases b1
  have okp := st.ok.put (st.rh.2 n _ q).pl (o := .ins (L.cad c) dx (putF (L.an k) v fv)) (fun _ z => nomatch z)
  refine ⟨x, st.ext x okp (RepH.hput st.ok st.rh hn ?_)⟩
  obtain ⟨c1, c2⟩ := put_fv hinj (rv.ext x st.ok) b2 (b3.ext x st.ok)
  refine ⟨dx, _, upd_same, c1, c2, b4, fun p hp => ?_⟩
  rcases fput_mem p hp with e | ⟨r, hr, e⟩
  · rw [e]; exact hna
  · rw [← e]; exact b5 r hr
theorem rs_fld {o v : Expr} {e' v' : E} {k : Nat} {pos pos' : Pos} (hinj : ∀ i j, L.an i = L.an j → i = j) (hc : ∀ c, c < L.g.cls.length → Cls X.K (L.cad c)) (hno : ∀ c k, noMeth L.g c k = true → NoAttr X.K (L.cad c) (L.an k))
    (he : PE X o (RdE (sy X L) call W e')) (hv : PE X v (RdV (sy X L) call W v')) (hs : swapsWith v (some (.Attribute o (L.an k) pos')) pos.line X.env = pure false) :
    PS X (.Assign [.Attribute o (L.an k) pos'] v pos) (RdX (sy X L) w0 W (evS L.g call (.fld e' k v'))) := (ps_fld he hv hs).impM fun D σ H ⟨en, h, wd, e1, f, p⟩ => by
  subst e1
  rw [evS] at p
  refine ⟨en, h, wd, rfl, f.st, (post_exc f.ex p).mono fun d h1 g v wd1 x1 ok1 rh1 r => ?_⟩
  have r : RepV X.prog X.w X.K L wd1 d v := r
  have st1 := f.st.ext x1 ok1 rh1
  refine rdE_step st1 (post_exc (f.ex.trans x1) (PostS.ext g (x1.f f.st.ok))) fun d2 h2 v2 wd2 g2 x2 st2 r2 _ => ?_
  cases d2 with
  | ref n =>
    dsimp only at g2
    cases q1 : h2[n]? with
    | none => rw [q1] at g2; exact g2.elim
    | some ob =>
      rw [q1] at g2
      cases ob with
      | ins c fs =>
        dsimp only at g2
        by_cases q2 : fs.length < 900 ∧ noMeth L.g c k = true
        · rw [if_pos q2] at g2
          obtain ⟨hn, rfl⟩ := r2.ref
          obtain ⟨dx, fv, b1, b2, b3, b4, b5⟩ := st2.rh.2 n _ q1
          have hl : fv.length = fs.length := by simpa using congrArg List.length b2
          obtain ⟨x3, st3⟩ := fld_put (d := d) hinj (hno c k q2.2) st2 q1 (r.ext x2 st1.ok) b1
          have x := x1.trans (x2.trans x3)
          exact ⟨_, _, dx, fv, rfl, b1, hc c b4, hno c k q2.2, by omega, g2 σ _ (f.ext x st3) ((x2.trans x3).f st1.ok)⟩
        · rw [if_neg q2] at g2; exact g2.elim
      | _ => exact g2.elim
  | _ => exact g2.elim
theorem rs_faug {o v : Expr} {op : Operator} {e' v' : E} {k : Nat} {b : Bin} {pos tpos : Pos} (hinj : ∀ i j, L.an i = L.an j → i = j) (hc : ∀ c, c < L.g.cls.length → Cls X.K (L.cad c)) (hno : ∀ c k, noMeth L.g c k = true → NoAttr X.K (L.cad c) (L.an k))
    (he : PE X o (RdE (sy X L) call W e')) (hv : PE X v (RdE (sy X L) call W v')) (hop : InOp X op (RV2 (sy X L) fun x y _ => binI b x y)) :
    PS X (.AugAssign (.Attribute o (L.an k) tpos) op v pos) (RdX (sy X L) w0 W (evS L.g call (.faug e' k b v'))) := (ps_fldaug he hv hop).impM fun D σ H ⟨en, h, wd, e1, f, p⟩ => by
  subst e1
  rw [evS] at p
  refine rdE_step f.st (post_exc f.ex p) fun d1 h1 v1 wd1 g1 x1 st1 r1 _ => ?_
  cases d1 with
  | ref n =>
    dsimp only at g1
    cases q1 : h1[n]? with
    | none => rw [q1] at g1; exact g1.elim
    | some ob =>
      rw [q1] at g1
      cases ob with
      | ins c fs =>
        dsimp only at g1
        cases q2 : flook fs k with
        | none => rw [q2] at g1; exact g1.elim
        | some y =>
          rw [q2] at g1
          dsimp only at g1
          obtain ⟨hn, rfl⟩ := r1.ref
          obtain ⟨dx, fv, b1, b2, b3, b4, b5⟩ := st1.rh.2 n _ q1
          obtain ⟨yv, hy, ry⟩ := (look_fv hinj b2 b3 k).2 y q2
          obtain ⟨pm, hpm, epm⟩ := flook_mem q2
          refine ⟨_, _, dx, fv, yv, rfl, b1, hc c b4, by rw [← epm]; exact b5 pm hpm, hy, rdE_step st1 (post_exc (f.ex.trans x1) (PostS.ext g1 (x1.f f.st.ok))) fun d2 h2 v2 wd2 g2 x2 st2 r2 _ => ?_⟩
          cases q3 : binI b y d2 with
          | none => rw [q3] at g2; exact g2.elim
          | some z =>
            rw [q3] at g2
            cases q4 : h2[n]? with
            | none => rw [q4] at g2; exact g2.elim
            | some ob2 =>
              rw [q4] at g2
              cases ob2 with
              | ins c2 fs2 =>
                dsimp only at g2
                by_cases q5 : c2 = c ∧ fs2.length < 900 ∧ noMeth L.g c k = true
                · rw [if_pos q5] at g2
                  obtain ⟨rfl, q5, q6⟩ := q5
                  refine ⟨h2, wd2, y, d2, rfl, st2.ok, st2.rh, .inl (ry.ext x2 st1.ok), r2, z, q3, fun u wd3 x3 ok3 rh3 r3 => ?_⟩
                  have r3 : RepV X.prog X.w X.K L wd3 z u := r3
                  have st3 := st2.ext x3 ok3 rh3
                  obtain ⟨dx', fv', c1, c2', c3, c4, c5⟩ := st3.rh.2 n _ q4
                  have hl : fv'.length = fs2.length := by simpa using congrArg List.length c2'
                  have eρ : wd3.ρ n = wd1.ρ n := (x3.ρ n (Nat.lt_of_lt_of_le hn x2.z)).trans (x2.ρ n hn)
                  obtain ⟨x4, st4⟩ := fld_put (d := z) hinj (hno _ k q6) st3 q4 r3 c1
                  rw [eρ] at c1 x4 st4
                  have x := x2.trans (x3.trans x4)
                  exact ⟨dx', fv', c1, by omega, g2 σ _ (f.ext (x1.trans x) st4) (x.f st1.ok)⟩
                · rw [if_neg q5] at g2; exact g2.elim
              | _ => exact g2.elim
      | _ => exact g1.elim
  | _ => exact g1.elim

/-! ### loops -/
theorem rs_for {tg iter : Expr} {body : List Stmt} {pos : Pos} {t : T} {i' : I} {b' : Ss} (hp : PassesOwn (model X.prog X.w) X.A X.env X.xe) (hcalm : X.calm = true) (hi : PI X tg iter (RdI (sy X L) call W i')) (hg : PG X tg (RdT (sy X L) t))
    (hb : PSs X body (RdX (sy X L) w0 W (evSs L.g call b'))) (hs : ∀ x, foldedSetIterable iter X.env x = pure x) :
    PS X (.For tg iter body [] pos) (RdX (sy X L) w0 W (evS L.g call (.for t i' b'))) := (ps_for hp hcalm hi hg hb hs).impM fun D σ H ⟨en, h, wd, e1, f, p⟩ => by
  subst e1
  rw [evS] at p
  cases qo : ownI i' en with
  | true => rw [qo] at p; exact p.elim
  | false =>
    rw [qo] at p
    simp only [Bool.false_eq_true, if_false] at p
    refine ⟨en, h, wd, rfl, f.st, (post_exc f.ex p).mono fun xs h1 g J wd1 x1 ok1 rh1 hlen _ wk => ?_⟩
    have wk := wk qo
    generalize hstep : (fun x en h => match bindT t x en with
      | some en' => evSs L.g call b' en' h
      | none => .fail : Mi.D → MEnv → AH → R Fl) = step at g
    refine ⟨fun i m σ H => m = xs.1.length - i ∧ i ≤ xs.1.length ∧ ∃ en h wi, wi.H = H ∧ ExtF wd1 wi ∧ Frm (sy X L) w0 wi σ en h ∧ same xs.2 h1 h = true ∧ PostS (sy X L) w0 wi W D (forL (same xs.2 h1) step (xs.1.drop i) en h), ⟨_, rfl, Nat.zero_le _, en, h1, wd1, rfl, ExtF.refl _, f.ext x1 (f.st.ext x1 ok1 rh1), same_refl _ _, PostS.ext (by simpa using g) (x1.f f.st.ok)⟩, ?_⟩
    rintro i m σ H ⟨rfl, hi, en, h, wi, rfl, xi, fi, sm, p⟩
    obtain ⟨wgo, wstop⟩ := wk i wi h xi fi.st.ok fi.st.rh sm
    by_cases hlt : i < xs.1.length
    · right
      refine ⟨(wgo hlt).1, fun σ H => ∃ m', m' < xs.1.length - i ∧ m' = xs.1.length - (i + 1) ∧ i + 1 ≤ xs.1.length ∧ ∃ en h wi, wi.H = H ∧ ExtF wd1 wi ∧ Frm (sy X L) w0 wi σ en h ∧ same xs.2 h1 h = true ∧ PostS (sy X L) w0 wi W D (forL (same xs.2 h1) step (xs.1.drop (i + 1)) en h), fun σ' H' ⟨m', a, b⟩ => ⟨m', a, b⟩, fun x H' y => ?_⟩
      obtain ⟨w2, d, hd, eH, x2, ok2, rh2, rd⟩ := (wgo hlt).2 x H' y
      subst eH
      rw [List.drop_eq_getElem_cons hlt] at p
      have edx : xs.1[i] = d := by
        rw [List.getElem?_eq_getElem hlt] at hd
        exact Option.some.inj hd
      rw [edx, forL] at p
      have st2 := fi.st.ext x2 ok2 rh2
      have xF2 := x2.f fi.st.ok
      rw [← hstep] at p
      dsimp only at p
      cases eb : bindT t d en with
      | none => rw [eb] at p; exact p.elim
      | some en' =>
        rw [eb] at p
        dsimp only at p
        refine ⟨en, h, w2, d, en', rfl, st2, rd, eb, fun σ2 stσ hσ lσ => ?_⟩
        have f2 : Frm (sy X L) w0 w2 σ2 en' h := ⟨stσ, fi.ex.trans x2, fun j a p h1 h2 => by
          obtain ⟨b1, b2⟩ := bind_own t eb j a h1
          exact fi.on j a p b1 (by rw [← hσ j b2]; exact h2)⟩
        refine ⟨en', h, w2, rfl, f2, ?_⟩
        -- the body, then on
        have on : ∀ (en2 : MEnv) (h2 : AH), PostS (sy X L) w0 wi W D (if same xs.2 h1 h2 = true then forL (same xs.2 h1) step (xs.1.drop (i + 1)) en2 h2 else .fail) → ∀ σ wd', Frm (sy X L) w0 wd' σ en2 h2 → ExtF w2 wd' →
            ∃ m', m' < xs.1.length - i ∧ m' = xs.1.length - (i + 1) ∧ i + 1 ≤ xs.1.length ∧ ∃ en h wi, wi.H = wd'.H ∧ ExtF wd1 wi ∧ Frm (sy X L) w0 wi σ en h ∧ same xs.2 h1 h = true ∧ PostS (sy X L) w0 wi W D (forL (same xs.2 h1) step (xs.1.drop (i + 1)) en h) := fun en2 h2 p σ3 wd3 f3 x3 => by
          cases sm2 : same xs.2 h1 h2 with
          | false => rw [sm2] at p; exact p.elim
          | true =>
            rw [sm2, if_pos rfl] at p
            exact ⟨_, by omega, rfl, hlt, en2, h2, wd3, rfl, xi.trans (xF2.trans x3), f3, sm2, PostS.ext p (xF2.trans x3)⟩
        cases ee : evSs L.g call b' en' h with
        | ok fl h2 =>
          rw [ee] at p
          rw [hstep] at p
          cases fl with
          | nx en2 => exact on en2 h2 p
          | ct en2 => exact on en2 h2 p
          | bk en2 => exact fun σ3 wd3 f3 x3 => p σ3 wd3 f3 (xF2.trans x3)
          | rt v => exact p
        | exc c d h2 =>
          rw [ee] at p
          exact p
        | fail => rw [ee] at p; exact p.elim
    · left
      have hi' : i = xs.1.length := by omega
      refine ⟨wstop hi', ?_⟩
      rw [hi', List.drop_length, forL] at p
      exact p σ wi fi (ExtF.refl _)
theorem rs_whl {c : Expr} {body : List Stmt} {pos : Pos} {c' : B} {b' : Ss} (hp : PassesOwn (model X.prog X.w) X.A X.env X.xe) (hc : PT X c (RdB (sy X L) call W c'))
    (hb : PSs X body (RdX (sy X L) w0 W (evSs L.g call b'))) : PS X (.While c body [] pos) (RdX (sy X L) w0 W (evS L.g call (.whl c' b'))) := (ps_while hp hc hb).impM fun D σ H ⟨en, h, wd, e1, f, p⟩ => by
  subst e1
  rw [evS] at p
  refine ⟨fun m σ H => ∃ en h wi, wi.H = H ∧ Frm (sy X L) w0 wi σ en h ∧ PostS (sy X L) w0 wi W D (whl (fun en h => evB L.g call c' en h) (fun en h => evSs L.g call b' en h) m en h), ⟨fuel, en, h, wd, rfl, f, p⟩, ?_⟩
  rintro m σ H ⟨en, h, wi, rfl, f, p⟩
  cases m with
  | zero => rw [whl] at p; exact p.elim
  | succ m =>
    rw [whl] at p
    have pb : Post (sy X L) wi (fun c d => W c d σ) (fun t h1 => PostS (sy X L) w0 wi W D (match t with
      | true => (match evSs L.g call b' en h1 with
        | .ok (.nx en') h2 => whl (fun en h => evB L.g call c' en h) (fun en h => evSs L.g call b' en h) m en' h2
        | .ok (.ct en') h2 => whl (fun en h => evB L.g call c' en h) (fun en h => evSs L.g call b' en h) m en' h2
        | .ok (.bk en') h2 => .ok (.nx en') h2
        | .ok (.rt d) h2 => .ok (.rt d) h2
        | .exc c d h' => .exc c d h'
        | .fail => .fail)
      | false => .ok (.nx en) h1)) (evB L.g call c' en h) := by
      cases e : evB L.g call c' en h with
      | ok t h1 =>
        rw [e] at p
        cases t with
        | true => exact p
        | false => exact p
      | exc c d h1 => rw [e] at p; exact fun wd' dx v x1 ok rh rv hd => p σ wd' dx v (f.ex.trans x1) ok rh rv hd
      | fail => rw [e] at p; exact p
    refine rdB_step f.st pb fun t h1 wd1 g x1 st1 => ?_
    have f1 := f.ext x1 st1
    have xF := x1.f f.st.ok
    cases t with
    | false => exact iteF (g σ wd1 f1 xF)
    | true =>
      refine iteT ⟨fun σ H => ∃ en h wi, wi.H = H ∧ Frm (sy X L) w0 wi σ en h ∧ PostS (sy X L) w0 wi W D (whl (fun en h => evB L.g call c' en h) (fun en h => evSs L.g call b' en h) m en h), fun σ' H' q => ⟨m, Nat.lt_succ_self _, q⟩, en, h1, wd1, rfl, f1, ?_⟩
      dsimp only at g
      cases ee : evSs L.g call b' en h1 with
      | ok fl h2 =>
        rw [ee] at g
        cases fl with
        | nx en2 => exact fun σ3 wd3 f3 x3 => ⟨en2, h2, wd3, rfl, f3, PostS.ext g (xF.trans x3)⟩
        | ct en2 => exact fun σ3 wd3 f3 x3 => ⟨en2, h2, wd3, rfl, f3, PostS.ext g (xF.trans x3)⟩
        | bk en2 => exact fun σ3 wd3 f3 x3 => g σ3 wd3 f3 (xF.trans x3)
        | rt v => exact g
      | exc c d h2 => rw [ee] at g; exact g
      | fail => rw [ee] at g; exact g.elim
end
end Mi
end
section
set_option Elab.async false
set_option linter.all false
set_option maxRecDepth 100000
set_option maxHeartbeats 4000000
/-! Raises; several names at once. -/
namespace Mi
open PySem L2

/-- what __init__ of the error classes does -/
def spErr (K : PySem.W.Frag) (C : Addr) : Sp := fun vs H Q _ => ∃ (a : Addr) (v : V), vs = [.ref a, v] ∧ OexC K C ∧ PySem.W.findIn K (.ref C) "value" = some none ∧ H a = some (exo a C none) ∧
  ∀ dx, H dx = none → dx ≠ a → Q .non (upd (upd H dx (exd dx [(("value" : Str), v)])) a (exo a C (some dx)))
/-- an error class -/
structure ErrC (X : Cx) (C : Addr) : Prop where
  t : OexC X.K C
  nov : PySem.W.findIn X.K (.ref C) "value" = some none
  fn : ∃ (fI : Addr) (fd : FuncData) (ps : List Str) (k : Nat), PySem.W.findIn X.K (.ref C) "__init__" = some (some (.ref fI)) ∧ PySem.W.typeIn X.K (.ref fI) = some (.type "function") ∧ FnOk X.prog X.w X.K X.mg X.base (L2.CX X.prog X.w) k fI fd ps (spErr X.K C) ∧ Room (k + 1) X.A ∧ Binds X.K fd ps []

section
variable {X : Cx} {L : Ln} {call : CallT} {W : WX} {w0 : Wd}
theorem _root_.L2.PMk.impM {e : Expr} {t t' : L2.St → Hp → XK → Prop} (h : PMk X e t) (k : ∀ σ H Q, t' σ H Q → t σ H Q) : PMk X e t' := fun pins s σ H Q I q => h pins s σ H Q I (k _ _ _ q)
theorem upd_del {H : Hp} {a d : Addr} {o p q r : HO} (ha : H a = none) (hd : H d = none) (ne : d ≠ a) : upd (del (upd (upd (upd H a o) d p) a q) a) d r = upd H d r := by
  funext b
  by_cases h : b = d
  · subst h; rw [upd_same, upd_same]
  · rw [upd_ne h, upd_ne h]
    by_cases h2 : b = a
    · subst h2; rw [del_same, ha]
    · rw [del_ne h2, upd_ne h2, upd_ne h, upd_ne h2]
theorem rs_raise {c : Nat} {e : Expr} {e' : E} {x : Str} {p pos pos2 : Pos} (hc : X.calm = true) (tk : Takes X W) (ht : ErrC X (L.cad c)) (hx : Passes (L2.CX X.prog X.w) X (fun _ _ _ => False)) (hg : Gl X x) (hm : X.mg x = some (.ref (L.cad c))) (he : PE X e (RdV (sy X L) call W e'))
    (hdb : (x == ("__debug__" : Str)) = false) (hs : starEach [e] X.env = (false, eval e X.env) :: starEach [] X.env) :
    PS X (.Raise (some (.Call (.Name x p) [e] [] pos)) none pos2) (RdX (sy X L) w0 W (evS L.g call (.raise c e'))) := by
  obtain ⟨fI, fd, ps, k, iC, tI, F, hr, hb⟩ := ht.fn
  refine (ps_raise hc tk (pmk_oex (p := p) (pos := pos) ht.t iC tI F hr hb .nil hx hg hm (pa_cons he pa_nil hs) hdb hs rfl)).impM fun D σ H ⟨en, h, wd, e1, f, p⟩ => ?_
  subst e1
  rw [evS] at p
  refine ⟨en, h, wd, rfl, f.st, (post_exc f.ex p).mono fun d h1 g v wd1 x1 ok1 rh1 r => ?_⟩
  have r : RepV X.prog X.w X.K L wd1 d v := r
  refine ⟨by simp, fun a ha => ⟨a, v, rfl, ht.t, ht.nov, upd_same, fun dx hdx ne => ⟨rfl, dx, [(("value" : Str), v)], upd_same, ?_, ?_, ?_⟩⟩⟩
  · rw [upd_ne ne, upd_same]
  · rw [upd_ne ne] at hdx; exact hdx
  · have hdx' : wd1.H dx = none := by rw [upd_ne ne] at hdx; exact hdx
    rw [upd_del ha hdx' ne]
    have x2 := Ext.lay wd1 (o := .xd [(("value" : Str), v)]) hdx'
    exact g σ (wd1.lay dx (.xd [(("value" : Str), v)])) dx v (f.ex.trans (x1.trans x2)) (ok1.lay hdx') (rh1.lay ok1 hdx') (r.ext x2 ok1) upd_same

/-! ### several names -/
def RepK (S : Sy) (wd0 wd : Wd) (o : Bool) (d : D) (v : V) : Prop := if o = true then ∃ p, v = .ref p ∧ Own S.P S.w S.K S.L wd d p ∧ ¬ Nt (wd0.H p) else RepV S.P S.w S.K S.L wd d v
def GoodO (S : Sy) (wd : Wd) (o : Bool) (Q : VK) (d : D) (h : AH) : Prop := ∀ v wd', Ext wd wd' → WOk wd' → RepH S.P S.w S.K S.L wd' h → RepK S wd wd' o d v → Q v wd'.H
def ItemOk (S : Sy) (call : CallT) (W : WX) (o : Bool) (e : E) (te : TE) : Prop := ∀ σ en h wd Q, Sat S wd σ en h → Post S wd (fun c d => W c d σ) (GoodO S wd o Q) (evV S.L.g call e en h) → te σ wd.H Q
theorem item_v {e : E} : ItemOk (sy X L) call W false e (RdV (sy X L) call W e) := fun σ en h wd Q st p => ⟨en, h, wd, rfl, st, p.mono fun d h1 g v wd1 x1 ok1 rh1 r => g v wd1 x1 ok1 rh1 (by unfold RepK; simpa using r)⟩
theorem item_o {f : F} : ItemOk (sy X L) call W true (.fr f) (RdF (sy X L) call W f) := fun σ en h wd Q st p => by
  unfold evV at p
  simp only [isOwn, Bool.false_eq_true, if_false] at p
  rw [evE] at p
  exact ⟨en, h, wd, rfl, st, p.mono fun d h1 g a wd1 x1 ok1 rh1 ow hn => g (.ref a) wd1 x1 ok1 rh1 (by unfold RepK; simp; exact ⟨ow, hn⟩)⟩
def slotK (o : Bool) (d : D) : MSlot := if o then .o d else .v d
theorem put_slot {S : Sy} {wd : Wd} {σ : L2.St} {en : MEnv} {h : AH} {i : Nat} {o : Bool} {d : D} {v : V} (f : Frm S w0 wd σ en h)
    (r : if o = true then ∃ p, v = .ref p ∧ Own S.P S.w S.K S.L wd d p ∧ ¬ Nt (w0.H p) ∧ ∀ (j : Nat) e, en[j]? = some (.o e) → σ[j]? = some (some (.ref p)) → j = i else RepV S.P S.w S.K S.L wd d v) :
    Frm S w0 wd (σ.set i (some v)) (en.set i (slotK o d)) h := by
  cases o with
  | false => exact ⟨⟨f.st.ok, f.st.rh, f.st.re.set r⟩, f.ex, on_set f.on⟩
  | true =>
    obtain ⟨p, rfl, ow, hn, fr⟩ := r
    refine ⟨⟨f.st.ok, f.st.rh, f.st.re.setO ow fr⟩, f.ex, fun j d2 q h1 h2 => ?_⟩
    by_cases z : i = j
    · subst z
      have l2 := (List.getElem?_eq_some_iff.mp h2).1
      rw [List.getElem?_set_self (by simpa using l2)] at h2
      cases h2
      exact hn
    · rw [List.getElem?_set_ne z] at h1 h2
      exact f.on j d2 q h1 h2
theorem rs_par {i j : Nat} {o1 o2 : Bool} {e1 e2 : E} {ta tb : TE} {st : Stmt} (h : PS X st (tPar i j (tCons ta (tCons tb tNil)))) (i1 : ItemOk (sy X L) call W o1 e1 ta) (i2 : ItemOk (sy X L) call W o2 e2 tb) (hij : i ≠ j) :
    PS X st (RdX (sy X L) w0 W (evS L.g call (.par [i, j] [o1, o2] (.cons e1 (.cons e2 .nil))))) := h.impM fun D σ H ⟨en, h, wd, eH, f, p⟩ => by
  subst eH
  rw [evS] at p
  cases hp : parOk [o1, o2] (.cons e1 (.cons e2 .nil)) with
  | false => rw [hp] at p; exact p.elim
  | true =>
    rw [hp, if_pos rfl] at p
    have q0 := post_exc (σ := σ) f.ex p
    rw [evEs] at q0
    have q1 : Post (sy X L) wd (fun c d => W c d σ) (fun d1 h1 => Post (sy X L) wd (fun c d => W c d σ) (fun d2 h2 => PostS (sy X L) w0 wd W D (match bindP [i, j] [o1, o2] [d1, d2] en with
      | some en' => .ok (.nx en') h2
      | none => .fail)) (evV L.g call e2 en h1)) (evV L.g call e1 en h) := by
      unfold evV
      cases z1 : isOwn e1 en with
      | true => rw [z1] at q0; exact q0.elim
      | false =>
        rw [z1] at q0
        simp only [Bool.false_eq_true, if_false] at q0 ⊢
        refine q0.bind.mono fun d1 h1 g => ?_
        rw [evEs] at g
        cases z2 : isOwn e2 en with
        | true => rw [z2] at g; exact g.elim
        | false =>
          rw [z2] at g
          simp only [Bool.false_eq_true, if_false] at g ⊢
          refine g.bind.bind.mono fun d2 h2 g => ?_
          rw [evEs] at g
          exact g
    refine i1 σ en h wd _ f.st (q1.mono fun d1 h1 g1 v1 wd1 x1 ok1 rh1 r1 => ?_)
    have st1 := f.st.ext x1 ok1 rh1
    refine i2 σ en h1 wd1 _ st1 ((Post.ext g1 x1 fun _ _ z => z).mono fun d2 h2 g2 v2 wd2 x2 ok2 rh2 r2 => ?_)
    have st2 := st1.ext x2 ok2 rh2
    refine ⟨v1, v2, rfl, ?_⟩
    have x := x1.trans x2
    have f2 := f.ext x st2
    have old : ∀ (j : Nat) e p, en[j]? = some (.o e) → σ[j]? = some (some (.ref p)) → Nt (wd.H p) := fun j e p h1 h2 => by
      obtain ⟨p', hp, ow⟩ := f.st.re.at_ j _ _ h1 h2
      cases hp
      exact ow.pl.nt
    have f3 := put_slot (i := i) (o := o1) (d := d1) (v := v1) f2 (by
      cases o1 with
      | false => exact (show RepV X.prog X.w X.K L wd1 d1 v1 by simpa [RepK] using r1).ext x2 ok1
      | true =>
        obtain ⟨p, e, ow, hn⟩ := (show ∃ p, v1 = .ref p ∧ Own X.prog X.w X.K L wd1 d1 p ∧ ¬ Nt (wd.H p) by simpa [RepK] using r1)
        exact ⟨p, e, ow.ext x2 ok1, fun z => hn (f.ex.live p z), fun j e h1 h2 => absurd (old j e p h1 h2) hn⟩)
    have f4 := put_slot (i := j) (o := o2) (d := d2) (v := v2) f3 (by
      cases o2 with
      | false => exact (show RepV X.prog X.w X.K L wd2 d2 v2 by simpa [RepK] using r2)
      | true =>
        obtain ⟨p, e, ow, hn⟩ := (show ∃ p, v2 = .ref p ∧ Own X.prog X.w X.K L wd2 d2 p ∧ ¬ Nt (wd1.H p) by simpa [RepK] using r2)
        refine ⟨p, e, ow, fun z => hn ((f.ex.trans x1).live p z), fun k e h1 h2 => ?_⟩
        by_cases zi : i = k
        · subst zi
          have l1 := (List.getElem?_eq_some_iff.mp h1).1
          have l2 := (List.getElem?_eq_some_iff.mp h2).1
          rw [List.getElem?_set_self (by simpa using l1)] at h1
          rw [List.getElem?_set_self (by simpa using l2)] at h2
          cases o1 with
          | false => cases h1
          | true =>
            obtain ⟨p', e', ow', hn'⟩ := (show ∃ p, v1 = .ref p ∧ Own X.prog X.w X.K L wd1 d1 p ∧ ¬ Nt (wd.H p) by simpa [RepK] using r1)
            rw [e'] at h2
            cases h2
            exact absurd ow'.pl.nt hn
        · rw [List.getElem?_set_ne zi] at h1 h2
          exact absurd (x1.live p (old k e p h1 h2)) hn)
    simp only [bindP] at g2
    exact g2 _ wd2 f4 (x.f f.st.ok)
end
end Mi
end
section
set_option Elab.async false
set_option linter.all false
set_option maxRecDepth 100000
set_option maxHeartbeats 4000000
/-! Containers by value: o[i], o[i] = v. -/
namespace Mi
open PySem L2

/-! ### keys -/
theorem strV_inj {a b : List Nat} (h : strV a = strV b) : a = b := by
  have := congrArg (fun s : Str => s.cps.toList) h
  simpa [strV] using this
theorem keyF_inj {a b : D} {k : Key} (h : keyF a = some k) (h' : keyF b = some k) : a = b := by
  cases a with
  | int i =>
    cases h
    cases b with
    | int j => cases h'; rfl
    | str s => cases h'
    | _ => cases h'
  | str s =>
    cases h
    cases b with
    | int j => cases h'
    | str t =>
      have : (Sum.inr (strV t) : Key) = Sum.inr (strV s) := Option.some.inj h'
      rw [strV_inj (Sum.inr.inj this)]
    | _ => cases h'
  | _ => cases h
theorem flat_key {a : D} (h : a.flat = true) : ∃ k, keyF a = some k := by
  cases a <;> first | exact ⟨_, rfl⟩ | cases h
theorem key_flat {a : D} {k : Key} (h : keyF a = some k) : a.flat = true := by
  cases a <;> first | rfl | cases h
mutual
theorem nk_inj : ∀ (a b : D), a.key = true → b.key = true → nk a = nk b → a = b
  | .non, b, _, hb, h => by cases b <;> first | rfl | (simp [nk] at h; done) | (simp [D.key] at hb; done)
  | .int i, b, _, hb, h => by
    cases b with
    | int j => simp only [nk, NestedKey.num.injEq] at h; rw [h]
    | _ => first | (simp [nk] at h; done) | (simp [D.key] at hb; done)
  | .str s, b, _, hb, h => by
    cases b with
    | str t => simp only [nk, NestedKey.text.injEq] at h; rw [strV_inj h]
    | _ => first | (simp [nk] at h; done) | (simp [D.key] at hb; done)
  | .tup xs, b, ha, hb, h => by
    cases b with
    | tup ys =>
      simp only [nk, NestedKey.tup.injEq] at h
      simp only [D.key] at ha hb
      rw [nks_inj xs ys ha hb h]
    | _ => first | (simp [nk] at h; done) | (simp [D.key] at hb; done)
  | .bl _, _, ha, _, _ => by simp [D.key] at ha
  | .lst _, _, ha, _, _ => by simp [D.key] at ha
  | .dct _ _, _, ha, _, _ => by simp [D.key] at ha
  | .set _, _, ha, _, _ => by simp [D.key] at ha
  | .ref _, _, ha, _, _ => by simp [D.key] at ha
  | .fn _, _, ha, _, _ => by simp [D.key] at ha
  | .cls _, _, ha, _, _ => by simp [D.key] at ha
  | .ty _, _, ha, _, _ => by simp [D.key] at ha
theorem nks_inj : ∀ (a b : List D), D.keys a = true → D.keys b = true → nks a = nks b → a = b
  | [], [], _, _, _ => rfl
  | [], _ :: _, _, _, h => by simp [nks] at h
  | _ :: _, [], _, _, h => by simp [nks] at h
  | a :: as, b :: bs, ha, hb, h => by
    simp only [D.keys, Bool.and_eq_true] at ha hb
    simp only [nks, List.cons.injEq] at h
    rw [nk_inj a b ha.1 hb.1 h.1, nks_inj as bs ha.2 hb.2 h.2]
end
mutual
theorem nk_depth : ∀ a : D, (nk a).depth ≤ a.depth
  | .tup xs => by simp only [nk, NestedKey.depth, D.depth]; have := nks_depth xs; omega
  | .non => by simp [nk, NestedKey.depth]
  | .int _ => by simp [nk, NestedKey.depth]
  | .str _ => by simp [nk, NestedKey.depth]
  | .bl _ => by simp [nk, NestedKey.depth]
  | .lst _ => by simp [nk, NestedKey.depth]
  | .dct _ _ => by simp [nk, NestedKey.depth]
  | .set _ => by simp [nk, NestedKey.depth]
  | .ref _ => by simp [nk, NestedKey.depth]
  | .fn _ => by simp [nk, NestedKey.depth]
  | .cls _ => by simp [nk, NestedKey.depth]
  | .ty _ => by simp [nk, NestedKey.depth]
theorem nks_depth : ∀ xs : List D, NestedKey.depthAll (nks xs) ≤ D.depths xs
  | [] => by simp [nks, NestedKey.depthAll, D.depths]
  | x :: xs => by simp only [nks, NestedKey.depthAll, D.depths]; have := nk_depth x; have := nks_depth xs; omega
end
theorem keyOk_key {a : D} (h : a.keyOk = true) : a.key = true ∧ a.depth ≤ 7 ∧ (a.flat = true ∨ isTup a = true) := by
  simp only [D.keyOk, Bool.and_eq_true, Bool.or_eq_true, decide_eq_true_eq] at h
  exact ⟨h.1.2, h.2, h.1.1⟩
section
variable {X : Cx} {L : Ln} {wd : Wd} {pins : List (Addr × PySem.Obj)} {σ : L2.St} {s : Shared}
mutual
/-- a key's value is a nested key -/
theorem nested_of (I : Inv X pins σ wd.H s) : ∀ {d : D} {v : V} {u : Value}, RepV X.prog X.w X.K L wd d v → RelV v u → d.key = true → NestedIs s.heap (nk d) u
  | .non, v, u, r, ru, _ => by rw [RepV] at r; subst r; cases ru; exact .none
  | .int i, v, u, r, ru, _ => by rw [RepV] at r; subst r; obtain ⟨t, rfl⟩ := ru; exact .int i t
  | .str x, v, u, r, ru, _ => by rw [RepV] at r; subst r; obtain ⟨t, rfl⟩ := ru; exact .text _ t
  | .tup ds, v, u, r, ru, hk => by
    rw [RepV] at r
    obtain ⟨a, vs, rfl, r1, r2, r3⟩ := r
    obtain rfl : u = Value.ref a := ru
    have sq : SqT X.K wd.H a vs := by
      rcases r1 with ⟨_, r1⟩ | r1
      · exact .inl r1
      · exact .inr r1
    obtain ⟨its, rv, ⟨o, ho, hc, n, hd⟩, _⟩ := I.tuple sq
    rw [nk]
    exact .tup ho hc hd (nesteds_of I r2 (by simpa using rv) (by simpa [D.key] using hk))
  | .bl _, _, _, _, _, hk => by simp [D.key] at hk
  | .lst _, _, _, _, _, hk => by simp [D.key] at hk
  | .dct _ _, _, _, _, _, hk => by simp [D.key] at hk
  | .set _, _, _, _, _, hk => by simp [D.key] at hk
  | .ref _, _, _, _, _, hk => by simp [D.key] at hk
  | .fn _, _, _, _, _, hk => by simp [D.key] at hk
  | .cls _, _, _, _, _, hk => by simp [D.key] at hk
  | .ty _, _, _, _, _, hk => by simp [D.key] at hk
theorem nesteds_of (I : Inv X pins σ wd.H s) : ∀ {ds : List D} {vs : List V} {us : List Value}, RepVs X.prog X.w X.K L wd ds vs → Vals vs us → D.keys ds = true → NestedAll s.heap (nks ds) us
  | [], vs, us, r, ru, _ => by
    rw [r.nil_inv] at ru
    cases ru
    rw [nks]; exact .nil
  | d :: ds, vs, us, r, ru, hk => by
    obtain ⟨v, vr, rfl, r1, r2⟩ := r.inv
    simp only [D.keys, Bool.and_eq_true] at hk
    cases ru with
    | cons ra rb => rw [nks]; exact .cons (nested_of I r1 ra hk.1) (nesteds_of I r2 rb hk.2)
end
/-- a tuple's dict key at an address -/
theorem key_is (I : Inv X pins σ wd.H s) {d : D} {a : Addr} (r : RepV X.prog X.w X.K L wd d (.ref a)) (hk : d.keyOk = true) : (nestedKind X.prog X.w).is s.heap (nk d) a := by
  obtain ⟨h1, h2, _⟩ := keyOk_key hk
  exact ⟨nested_of I r rfl h1, by have := nk_depth d; omega⟩
theorem RepV.tup_ref {P w K} {ds : List D} {v : V} (r : RepV P w K L wd (.tup ds) v) : ∃ a, v = .ref a := by
  rw [RepV] at r
  obtain ⟨a, _, e, _⟩ := r
  exact ⟨a, e⟩
/-- the entries of a dict with tuple keys -/
theorem dictH (I : Inv X pins σ wd.H s) {a : Addr} {xs : List (NestedKey × Addr × Value)} {ks : List D} (e : wd.H a = some (tdO X.prog X.w a xs)) (rk : RepVs X.prog X.w X.K L wd ks (xs.map fun x => V.ref x.2.1)) (ek : ks.map nk = xs.map (·.1)) (nd : ks.Nodup)
    (ok : ∀ k ∈ ks, k.keyOk = true) : s.heap.DictOfH (nestedKind X.prog X.w) a xs := by
  obtain ⟨⟨o, es, ep, h1, h2, h3, h4⟩, _, _⟩ := I.hok a _ e
  refine ⟨o, es, ep, h1, h2, h3, h4, fun x hx => ?_, ?_⟩
  · obtain ⟨i, hi, ex⟩ := List.getElem_of_mem hx
    have e1 : (xs.map fun x => V.ref x.2.1)[i]? = some (V.ref x.2.1) := by rw [List.getElem?_map, List.getElem?_eq_getElem hi, ex]; rfl
    obtain ⟨d, hd, rd⟩ := rk.get' e1
    have e2 : (ks.map nk)[i]? = some (nk d) := by rw [List.getElem?_map, hd]; rfl
    rw [ek, List.getElem?_map, List.getElem?_eq_getElem hi, ex] at e2
    have e2 : x.1 = nk d := Option.some.inj e2
    rw [e2]
    exact key_is I rd (ok d (List.mem_of_getElem? hd))
  · rw [← ek]
    have : ∀ l : List D, l.Nodup → (∀ k ∈ l, k.keyOk = true) → (l.map nk).Nodup := by
      intro l
      induction l with
      | nil => intro _ _; exact .nil
      | cons d l ih =>
        intro h1 h2
        rw [List.nodup_cons] at h1
        rw [List.map_cons, List.nodup_cons]
        refine ⟨fun z => ?_, ih h1.2 fun k hk => h2 k (List.mem_cons_of_mem _ hk)⟩
        obtain ⟨d', hd', ed⟩ := List.mem_map.mp z
        have := nk_inj d' d (keyOk_key (h2 d' (List.mem_cons_of_mem _ hd'))).1 (keyOk_key (h2 d List.mem_cons_self)).1 ed
        exact h1.1 (this ▸ hd')
    exact this ks nd ok

/-! ### lookups -/
theorem look_k {P w K} {κ : Key} {k : D} (hk : keyF k = some κ) : ∀ {ks vs : List D} {kvs : List (Key × V)}, ks.map keyF = kvs.map (fun p => some p.1) → RepVs P w K L wd vs (kvs.map (·.2)) →
    (dlook ks vs k = none → valV kvs κ = none) ∧ ∀ d, dlook ks vs k = some d → ∃ v, valV kvs κ = some v ∧ RepV P w K L wd d v
  | [], vs, kvs, h1, h2 => by
    have : kvs = [] := by simpa using (congrArg List.length h1).symm
    subst this
    exact ⟨fun _ => rfl, fun d e => by simp [dlook] at e⟩
  | a :: ks, vs, kvs, h1, h2 => by
    cases kvs with
    | nil => simp at h1
    | cons p kvs =>
      obtain ⟨κ0, v0⟩ := p
      simp only [List.map_cons, List.cons.injEq] at h1
      cases vs with
      | nil => have := h2.len; simp at this
      | cons d0 vs =>
        obtain ⟨v, r, e, r1, r2⟩ := h2.inv
        simp only [List.map_cons, List.cons.injEq] at e
        obtain ⟨e1, e2⟩ := e
        subst e1 e2
        by_cases q : a = k
        · subst q
          have : κ0 = κ := Option.some.inj (h1.1.symm.trans hk)
          subst this
          refine ⟨fun e => by simp [dlook] at e, fun d e => ?_⟩
          simp [dlook] at e
          subst e
          exact ⟨v0, valV_pos (p := (κ0, v0)) rfl, r1⟩
        · have ne : ¬ κ0 = κ := fun z => by subst z; exact q (keyF_inj h1.1 hk)
          rw [valV_neg (p := (κ0, v0)) ne]
          simp only [dlook, q, if_false]
          exact look_k hk h1.2 r2
theorem look_t {P w K} {k : D} (hk : k.key = true) : ∀ {ks vs : List D} {vv : List V} {xs : List (NestedKey × Addr × Value)}, (∀ x ∈ ks, x.key = true) → ks.map nk = xs.map (·.1) → RepVs P w K L wd vs vv → Vals vv (xs.map fun x => x.2.2) →
    (dlook ks vs k = none → atKey xs (nk k) = none) ∧ ∀ d, dlook ks vs k = some d → ∃ p v, atKey xs (nk k) = some p ∧ RelV v p.2 ∧ RepV P w K L wd d v
  | [], vs, vv, xs, ok, h1, h2, h3 => by
    have : xs = [] := by simpa using (congrArg List.length h1).symm
    subst this
    exact ⟨fun _ => rfl, fun d e => by simp [dlook] at e⟩
  | a :: ks, vs, vv, xs, ok, h1, h2, h3 => by
    cases xs with
    | nil => simp at h1
    | cons p xs =>
      simp only [List.map_cons, List.cons.injEq] at h1
      rw [List.map_cons] at h3
      cases h3 with
      | @cons v0 _ vr _ ra rb =>
        cases vs with
        | nil => have := h2.len; simp at this
        | cons d0 vs =>
          obtain ⟨v, r, e, r1, r2⟩ := h2.inv
          cases e
          by_cases q : a = k
          · subst q
            refine ⟨fun e => by simp [dlook] at e, fun d e => ?_⟩
            simp [dlook] at e
            subst e
            refine ⟨p.2, v0, ?_, ra, r1⟩
            simp [atKey, List.find?_cons, h1.1]
          · have ne : ¬ p.1 = nk k := fun z => q (nk_inj a k (ok a List.mem_cons_self) hk (h1.1.trans z))
            have : atKey (p :: xs) (nk k) = atKey xs (nk k) := by simp [atKey, List.find?_cons, ne]
            rw [this]
            simp only [dlook, q, if_false]
            exact look_t hk (fun x hx => ok x (List.mem_cons_of_mem _ hx)) h1.2 r2 rb
end

/-! ### writing -/
theorem dput_keys {ks vs : List D} {k d : D} (hl : ks.length = vs.length) : (dput ks vs k d).1 = (if k ∈ ks then ks else ks ++ [k]) ∧ (dput ks vs k d).1.length = (dput ks vs k d).2.length := by
  induction ks generalizing vs with
  | nil =>
    cases vs with
    | nil => simp [dput]
    | cons _ _ => simp at hl
  | cons a ks ih =>
    cases vs with
    | nil => simp at hl
    | cons b vs =>
      have hl : ks.length = vs.length := by simpa using hl
      by_cases q : a = k
      · subst q; simp [dput, hl]
      · obtain ⟨h1, h2⟩ := ih hl
        have : ¬ k = a := fun z => q z.symm
        simp only [dput, q, if_false, h1, List.mem_cons, this, false_or, List.length_cons]
        refine ⟨by split <;> simp, ?_⟩
        rw [h1] at h2
        rw [h2]
theorem dput_nodup {ks vs : List D} {k d : D} (hl : ks.length = vs.length) (nd : ks.Nodup) : (dput ks vs k d).1.Nodup := by
  rw [(dput_keys hl).1]
  split
  · exact nd
  · rename_i h
    rw [List.nodup_append]
    exact ⟨nd, by simp, fun a ha b hb => by
      have : b = k := by simpa using hb
      subst this
      exact fun e => h (e ▸ ha)⟩
section
variable {X : Cx} {L : Ln} {wd : Wd}
/-- putK, told item by item: like dput where no key is there twice -/
theorem put_k {P w K} {κ : Key} {k d : D} {v : V} (hk : keyF k = some κ) (rv : RepV P w K L wd d v) : ∀ {ks vs : List D} {kvs : List (Key × V)}, ks.map keyF = kvs.map (fun p => some p.1) → ks.Nodup → RepVs P w K L wd vs (kvs.map (·.2)) →
    (dput ks vs k d).1.map keyF = (putK kvs κ v).map (fun p => some p.1) ∧ RepVs P w K L wd (dput ks vs k d).2 ((putK kvs κ v).map (·.2))
  | [], vs, kvs, h1, nd, h2 => by
    have : kvs = [] := by simpa using (congrArg List.length h1).symm
    subst this
    have : vs = [] := by
      have := h2.len
      simpa using this
    subst this
    simp only [dput, putK]
    exact ⟨by simp [hk], by simp; exact .cons rv .nil⟩
  | a :: ks, vs, kvs, h1, nd, h2 => by
    cases kvs with
    | nil => simp at h1
    | cons p kvs =>
      obtain ⟨κ0, v0⟩ := p
      simp only [List.map_cons, List.cons.injEq] at h1
      rw [List.nodup_cons] at nd
      cases vs with
      | nil => have := h2.len; simp at this
      | cons d0 vs =>
        obtain ⟨v', r, e, r1, r2⟩ := h2.inv
        simp only [List.map_cons, List.cons.injEq] at e
        obtain ⟨e1, e2⟩ := e
        subst e1 e2
        by_cases q : a = k
        · subst q
          have : κ0 = κ := Option.some.inj (h1.1.symm.trans hk)
          subst this
          have rest : kvs.map (fun kv => if kv.1 = κ0 then (kv.1, v) else kv) = kvs := by
            have : ∀ (l : List D) (m : List (Key × V)), l.map keyF = m.map (fun p => some p.1) → a ∉ l → m.map (fun kv => if kv.1 = κ0 then (kv.1, v) else kv) = m := by
              intro l
              induction l with
              | nil => intro m h _; have : m = [] := by simpa using (congrArg List.length h).symm
                       subst this; rfl
              | cons b l ih =>
                intro m h hn
                cases m with
                | nil => simp at h
                | cons q m =>
                  simp only [List.map_cons, List.cons.injEq] at h
                  have nq : ¬ q.1 = κ0 := fun z => by
                    have : b = a := keyF_inj (k := κ0) (by rw [h.1, z]) hk
                    exact hn (by simp [this])
                  rw [List.map_cons, ih m h.2 fun z => hn (List.mem_cons_of_mem _ z)]
                  simp [nq]
            exact this ks kvs h1.2 nd.1
          have e : putK ((κ0, v0) :: kvs) κ0 v = (κ0, v) :: kvs := by
            unfold putK
            simp [rest]
          rw [e]
          simp only [dput, if_true]
          exact ⟨by simp [hk, h1.2], .cons rv r2⟩
        · have ne : ¬ κ0 = κ := fun z => by subst z; exact q (keyF_inj h1.1 hk)
          obtain ⟨i1, i2⟩ := put_k hk rv h1.2 nd.2 r2
          have e : putK ((κ0, v0) :: kvs) κ v = (κ0, v0) :: putK kvs κ v := by
            unfold putK
            simp only [List.any_cons, ne, decide_false, Bool.false_or]
            split <;> simp [ne]
          rw [e]
          simp only [dput, q, if_false]
          exact ⟨by simp [h1.1, i1], .cons r1 i2⟩
theorem put_t {P w K} {k d : D} {v : V} {u : Value} {b : Addr} (hk : k.key = true) (rk : RepV P w K L wd k (.ref b)) (rv : RepV P w K L wd d v) (ru : RelV v u) : ∀ {ks vs : List D} {vv : List V} {xs : List (NestedKey × Addr × Value)}, (∀ x ∈ ks, x.key = true) → ks.Nodup → ks.map nk = xs.map (·.1) →
    RepVs P w K L wd ks (xs.map fun x => V.ref x.2.1) → RepVs P w K L wd vs vv → Vals vv (xs.map fun x => x.2.2) →
    ∃ vv', (dput ks vs k d).1.map nk = (storedH xs (nk k) b u).map (·.1) ∧ RepVs P w K L wd (dput ks vs k d).1 ((storedH xs (nk k) b u).map fun x => V.ref x.2.1) ∧ RepVs P w K L wd (dput ks vs k d).2 vv' ∧ Vals vv' ((storedH xs (nk k) b u).map fun x => x.2.2)
  | [], vs, vv, xs, ok, nd, h1, h0, h2, h3 => by
    have : xs = [] := by simpa using (congrArg List.length h1).symm
    subst this
    have : vv = [] := by cases h3; rfl
    subst this
    have : vs = [] := by have := h2.len; simpa using this
    subst this
    refine ⟨[v], ?_⟩
    simp only [dput, storedH, atKey, List.find?_nil, Option.map_none, Option.isSome_none, Bool.false_eq_true, if_false, List.nil_append, List.map_cons, List.map_nil]
    exact ⟨by simp, .cons rk .nil, .cons rv .nil, .cons ru .nil⟩
  | a :: ks, vs, vv, xs, ok, nd, h1, h0, h2, h3 => by
    cases xs with
    | nil => simp at h1
    | cons p xs =>
      simp only [List.map_cons, List.cons.injEq] at h1
      rw [List.nodup_cons] at nd
      rw [List.map_cons] at h3 h0
      obtain ⟨_, _, e0, k1, k2⟩ := h0.inv
      cases e0
      cases h3 with
      | @cons v0 _ vr _ ra rb =>
        cases vs with
        | nil => have := h2.len; simp at this
        | cons d0 vs =>
          obtain ⟨v', r, e, r1, r2⟩ := h2.inv
          cases e
          by_cases q : a = k
          · subst q
            have rest : xs.map (putAt (nk a) u) = xs := by
              have : ∀ (l : List D) (m : List (NestedKey × Addr × Value)), l.map nk = m.map (·.1) → a ∉ l → (∀ x ∈ l, x.key = true) → m.map (putAt (nk a) u) = m := by
                intro l
                induction l with
                | nil => intro m h _ _; have : m = [] := by simpa using (congrArg List.length h).symm
                         subst this; rfl
                | cons c l ih =>
                  intro m h hn hok
                  cases m with
                  | nil => simp at h
                  | cons q m =>
                    simp only [List.map_cons, List.cons.injEq] at h
                    have nq : ¬ q.1 = nk a := fun z => by
                      have : c = a := nk_inj c a (hok c List.mem_cons_self) hk (h.1.trans z)
                      exact hn (by simp [this])
                    rw [List.map_cons, ih m h.2 (fun z => hn (List.mem_cons_of_mem _ z)) fun x hx => hok x (List.mem_cons_of_mem _ hx)]
                    simp [putAt, nq]
              exact this ks xs h1.2 nd.1 fun x hx => ok x (List.mem_cons_of_mem _ hx)
            have e : storedH (p :: xs) (nk a) b u = (p.1, p.2.1, u) :: xs := by
              unfold storedH
              have : (atKey (p :: xs) (nk a)).isSome = true := by simp [atKey, List.find?_cons, h1.1]
              rw [if_pos this, List.map_cons, rest]
              simp [putAt, h1.1]
            rw [e]
            simp only [dput, if_true]
            exact ⟨v :: vr, by simp [h1.1, h1.2], .cons k1 k2, .cons rv r2, .cons ru rb⟩
          · have ne : ¬ p.1 = nk k := fun z => q (nk_inj a k (ok a List.mem_cons_self) hk (h1.1.trans z))
            obtain ⟨vv', i1, i2, i3, i4⟩ := put_t hk rk rv ru (fun x hx => ok x (List.mem_cons_of_mem _ hx)) nd.2 h1.2 k2 r2 rb
            have e : storedH (p :: xs) (nk k) b u = p :: storedH xs (nk k) b u := by
              unfold storedH
              have : atKey (p :: xs) (nk k) = atKey xs (nk k) := by simp [atKey, List.find?_cons, ne]
              rw [this]
              split
              · simp [putAt, ne]
              · rfl
            rw [e]
            simp only [dput, q, if_false]
            exact ⟨v0 :: vv', by simp [h1.1, i1], .cons k1 i2, .cons r1 i3, .cons ra i4⟩
end
end Mi
end
section
set_option Elab.async false
set_option linter.all false
set_option maxRecDepth 100000
set_option maxHeartbeats 4000000
/-! What the machine does with containers. -/
namespace Mi
open PySem L2

section
variable {X : Cx} {L : Ln} {wd : Wd} {pins : List (Addr × PySem.Obj)} {σ : L2.St} {s : Shared} {h : AH} {dx dy d : D} {x y : V} {v u : Value} {A : Around} {E : Value → Shared → Prop}
/-- the dict that a value is -/
theorem dct_at {ks vs : List D} (rh : RepH X.prog X.w X.K L wd h) (r : RepP X.prog X.w X.K L wd dx x) (e : asD dx h = some (ks, vs)) : ∃ a kk vv, x = .ref a ∧ DctAt X.prog X.w wd.H a ks kk vv ∧ RepVs X.prog X.w X.K L wd ks kk ∧ RepVs X.prog X.w X.K L wd vs vv ∧ ks.Nodup ∧ (∀ k ∈ ks, k.keyOk = true) := by
  cases dx with
  | dct ks' vs' =>
    cases e
    rcases r with r | ⟨p, e1, ⟨⟨o, ho, ro⟩, nf, nr⟩⟩
    · rw [RepV] at r
      obtain ⟨a, kk, vv, e1, _, r⟩ := r
      exact ⟨a, kk, vv, e1, r⟩
    · cases ho
      obtain ⟨kk, vv, r1, r2, r3, r4, r5, _⟩ := ro
      exact ⟨p, kk, vv, e1, r1, r2, r3, r4, r5⟩
  | ref n =>
    simp only [asD] at e
    cases q : h[n]? with
    | none => rw [q] at e; cases e
    | some o =>
      rw [q] at e
      cases o with
      | dct _ _ =>
        cases e
        obtain ⟨hn, rfl⟩ := r.ref
        obtain ⟨kk, vv, r1, r2, r3, r4, r5, _⟩ := rh.2 n _ q
        exact ⟨_, kk, vv, rfl, r1, r2, r3, r4, r5⟩
      | lst _ => cases e
      | ins _ _ => cases e
  | _ => cases e
/-- the row that a value is -/
theorem seq_at {xs : List D} (ok : WOk wd) (rh : RepH X.prog X.w X.K L wd h) (r : RepP X.prog X.w X.K L wd dx x) (e : asS dx h = some xs) : ∃ a vs, x = .ref a ∧ (SqL X.K wd.H a vs ∧ isTup dx = false ∨ SqT X.K wd.H a vs ∧ dx = .tup xs) ∧ RepVs X.prog X.w X.K L wd xs vs ∧ xs.length ≤ most := by
  rcases asS_cases e with rfl | e
  · obtain ⟨ln, a, ex, hl⟩ := tup_at r.tup
    obtain ⟨vs, h1, h2⟩ := hl wd (ExtF.refl _)
    exact ⟨a, vs, ex, .inr ⟨h1, rfl⟩, h2, ln⟩
  · obtain ⟨ln, a, ex, hl⟩ := list_at ok rh r e
    obtain ⟨vs, h1, h2⟩ := hl wd h (Ext.refl _) rh (same_refl _ _)
    exact ⟨a, vs, ex, .inl ⟨h1, by cases dx <;> first | rfl | cases e⟩, h2, ln⟩
theorem place_ixN (n : Nat) (i : Int) : place n i = ixN n i := by
  unfold place ixN
  split
  · rfl
  · by_cases q : 0 ≤ i + n
    · rw [if_pos q, if_pos (by omega)]
    · rw [if_neg q, if_neg (by omega)]
theorem kin_key {ks : List D} {k : D} (h : kin ks k = true) : k.keyOk = true ∧ ∀ a ∈ ks, a.flat = k.flat := by
  simp only [kin, Bool.and_eq_true, List.all_eq_true, beq_iff_eq] at h
  exact h
theorem keyF_some : ∀ {ks : List D} {kvs : List (Key × V)}, ks.map keyF = kvs.map (fun p => some p.1) → ∀ k ∈ ks, k.flat = true
  | [], _, _, k, hk => nomatch hk
  | a :: ks, kvs, h, k, hk => by
    cases kvs with
    | nil => simp at h
    | cons p kvs =>
      simp only [List.map_cons, List.cons.injEq] at h
      rcases List.mem_cons.mp hk with e | hk
      · rw [e]; exact key_flat h.1
      · exact keyF_some h.2 k hk
theorem kV_of {k : D} {κ : Key} {P w K} {z : V} (hk : keyF k = some κ) (r : RepV P w K L wd k z) : z = kV κ := by
  cases k with
  | int i => cases hk; rw [RepV] at r; exact r
  | str i => cases hk; rw [RepV] at r; exact r
  | _ => cases hk
theorem flat_repV {k : D} {z : V} {P w K} (hk : k.keyOk = true) (r : RepP P w K L wd k z) : RepV P w K L wd k z := by
  rcases r with r | ⟨p, _, ⟨⟨o, ho, _⟩, _⟩⟩
  · exact r
  · obtain ⟨_, _, q⟩ := keyOk_key hk
    cases k with
    | lst _ => simp [D.flat, isTup] at q
    | dct _ _ => simp [D.flat, isTup] at q
    | _ => cases ho
/-- an asked key, by the dict's kind -/
inductive Ask (X : Cx) (L : Ln) (wd : Wd) (a : Addr) (ks vs : List D) (k : D) (y : V) : Prop where
  | flat (kvs : List (Key × V)) (κ : Key) (r : Rd wd.H a (.dK kvs)) (hκ : keyF k = some κ) (ey : y = kV κ) (hk : ks.map keyF = kvs.map (fun p => some p.1)) (rv : RepVs X.prog X.w X.K L wd vs (kvs.map (·.2)))
  | empty (b : Addr) (r : Rd wd.H a (.dK [])) (ey : y = .ref b) (e1 : ks = []) (e2 : vs = [])
  | tup (xs : List (NestedKey × Addr × Value)) (vv : List V) (b : Addr) (ey : y = .ref b) (r : wd.H a = some (tdO X.prog X.w a xs)) (ns : (a == sysModules) = false) (hl : xs.length ≤ sizeLine) (rk : RepVs X.prog X.w X.K L wd ks (xs.map fun x => V.ref x.2.1)) (rv : RepVs X.prog X.w X.K L wd vs vv) (vl : Vals vv (xs.map fun x => x.2.2)) (ek : ks.map nk = xs.map (·.1))
theorem ask {a : Addr} {ks vs : List D} {kk vv : List V} {k : D} (da : DctAt X.prog X.w wd.H a ks kk vv) (rk : RepVs X.prog X.w X.K L wd ks kk) (rv : RepVs X.prog X.w X.K L wd vs vv) (hk : kin ks k = true) (ry : RepV X.prog X.w X.K L wd k y) : Ask X L wd a ks vs k y := by
  obtain ⟨h1, h2⟩ := kin_key hk
  obtain ⟨_, _, h3⟩ := keyOk_key h1
  have tupc : k.flat = false → ∃ b, y = .ref b := fun hf => by
    rcases h3 with q | q
    · rw [hf] at q; cases q
    · cases k with
      | tup ds => exact ry.tup_ref
      | _ => cases q
  rcases da with ⟨kvs, r, rfl, rfl, e⟩ | ⟨xs, r, ns, hl, ne, rfl, vl, ek, tk⟩
  · cases hf : k.flat with
    | true =>
      obtain ⟨κ, hκ⟩ := flat_key hf
      exact .flat kvs κ r hκ (kV_of hκ ry) e rv
    | false =>
      have : ks = [] := by
        cases ks with
        | nil => rfl
        | cons a ks =>
          have := h2 a List.mem_cons_self
          rw [hf] at this
          have q := keyF_some e a List.mem_cons_self
          rw [this] at q; cases q
      subst this
      have : kvs = [] := by simpa using (congrArg List.length e).symm
      subst this
      have : vs = [] := by have := rv.len; simpa using this
      subst this
      obtain ⟨b, eb⟩ := tupc hf
      exact .empty b r eb rfl rfl
  · have hf : k.flat = false := by
      cases ks with
      | nil => exact absurd rfl ne
      | cons a ks =>
        obtain ⟨ys, e⟩ := tk a List.mem_cons_self
        rw [← h2 a List.mem_cons_self, e]; rfl
    obtain ⟨b, eb⟩ := tupc hf
    exact .tup xs vv b eb r ns hl rk rv vl ek
theorem emptyH {a : Addr} (I : Inv X pins σ wd.H s) (r : Rd wd.H a (.dK [])) : (a == sysModules) = false ∧ s.heap.DictOfH (nestedKind X.prog X.w) a [] := by
  obtain ⟨_, hd, vs, rel, o, es, ep, h1, h2, h3, _, hp, _⟩ := dk_rd I.hok r
  refine ⟨hd, o, es, ep, h1, h2, h3, ?_, (fun _ z => nomatch z), List.nodup_nil⟩
  have : vs = [] := by cases rel; rfl
  subst this
  have hlen := hp.length
  have : es.toList = [] := by simpa using hlen
  rw [this]; rfl
theorem room_nk (hu : X.A.units + 16 < cLine) : (nestedKind X.prog X.w).room X.A.in1 := by
  show X.A.units + 1 + 8 < cLine
  omega
/-- d[k] -/
theorem dict_get {a : Addr} {ks vs : List D} {Q : Value → Shared → Prop} (hu : X.A.units + 16 < cLine) (I : Inv X pins σ wd.H s) (q : Ask X L wd a ks vs dy y) (nd : ks.Nodup) (ok : ∀ k ∈ ks, k.keyOk = true) (hk : dy.keyOk = true) (ry : RepV X.prog X.w X.K L wd dy y) (ru : RelV y u) (e : dlook ks vs dy = some d)
    (k : ∀ w' s' z, Inv X pins σ wd.H s' → RelV z w' → RepV X.prog X.w X.K L wd d z → Q w' s') : wpAny (model X.prog X.w) X.A (getItem (.ref a) u) Q E s := by
  cases q with
  | flat kvs κ r hκ ey hkk rv =>
    obtain ⟨z, hz, rz⟩ := (look_k hκ hkk rv).2 d e
    exact d_getItem (y := y) (v := z) (by omega) I (.inl ⟨kvs, κ, r, ey, hz.symm⟩) ru fun w' s' I' rw' => k w' s' z I' rw' rz
  | empty b r ey e1 e2 => subst e1 e2; simp [dlook] at e
  | tup xs vv b ey r ns hl rk rv vl ek =>
    subst ey
    cases (show u = Value.ref b from ru)
    obtain ⟨p, z, hp, rz, rd⟩ := (look_t (keyOk_key hk).1 (fun x hx => (keyOk_key (ok x hx)).1) ek rv vl).2 d e
    exact wpAny_getItem_heap (room_nk hu) (key_is I ry hk) (dictH I r rk ek nd ok) hp (k _ _ z (I.tok _) rz rd)
/-- k in d -/
theorem dict_has {a : Addr} {ks vs : List D} {Q : Value → Shared → Prop} (neg : Bool) (hu : X.A.units + 16 < cLine) (I : Inv X pins σ wd.H s) (q : Ask X L wd a ks vs dy y) (nd : ks.Nodup) (ok : ∀ k ∈ ks, k.keyOk = true) (hk : dy.keyOk = true) (ry : RepV X.prog X.w X.K L wd dy y) (ru : RelV y u)
    (k : ∀ s', Inv X pins σ wd.H s' → Q (.bool (if neg then !decide (dy ∈ ks) else decide (dy ∈ ks))) s') : wpAny (model X.prog X.w) X.A (compareOp (if neg then .NotIn else .In) u (.ref a)) Q E s := by
  have lk : ∀ {ks vs : List D}, ks.length = vs.length → (dlook ks vs dy).isSome = decide (dy ∈ ks) := by
    intro ks
    induction ks with
    | nil => intro vs _; simp [dlook]
    | cons a ks ih =>
      intro vs hl
      cases vs with
      | nil => simp at hl
      | cons b vs =>
        by_cases q : a = dy
        · subst q; simp [dlook]
        · have := ih (vs := vs) (by simpa using hl)
          have q2 : ¬ dy = a := fun z => q z.symm
          simp [dlook, q, q2, this]
  cases q with
  | flat kvs κ r hκ ey hkk rv =>
    have hl : ks.length = vs.length := by
      have h1 := congrArg List.length hkk
      have h2 := rv.len
      simp at h1 h2
      omega
    have hz : (valV kvs κ).isSome = decide (dy ∈ ks) := by
      rw [← lk hl]
      have := look_k (L := L) (wd := wd) hκ hkk rv
      cases e : dlook ks vs dy with
      | none => rw [this.1 e]; rfl
      | some d => obtain ⟨z, hz, _⟩ := this.2 d e; rw [hz]; rfl
    cases neg with
    | false => exact d_in (y := y) (by omega) I (.inl ⟨kvs, κ, r, ey, rfl⟩) ru fun s' I' => by rw [hz]; exact k s' I'
    | true => exact d_notIn (y := y) (by omega) I (.inl ⟨kvs, κ, r, ey, rfl⟩) ru fun s' I' => by rw [hz]; exact k s' I'
  | empty b r ey e1 e2 =>
    subst e1 e2 ey
    cases (show u = Value.ref b from ru)
    obtain ⟨hd, hh⟩ := emptyH I r
    cases neg with
    | false => exact wpAny_in_heap (room_nk hu) (key_is I ry hk) hd hh (by simpa [atKey] using k _ (I.tok _))
    | true => exact PyProof.Rows.wpAny_notIn_heap (room_nk hu) (key_is I ry hk) hd hh (by simpa [atKey] using k _ (I.tok _))
  | tup xs vv b ey r ns hl rk rv vl ek =>
    subst ey
    cases (show u = Value.ref b from ru)
    have hl : ks.length = vs.length := by
      have h1 := congrArg List.length ek
      have h2 := rv.len
      have h3 := vl.length
      simp at h1 h3
      omega
    have hz : (atKey xs (nk dy)).isSome = decide (dy ∈ ks) := by
      rw [← lk hl]
      have := look_t (L := L) (wd := wd) (keyOk_key hk).1 (fun x hx => (keyOk_key (ok x hx)).1) ek rv vl
      cases e : dlook ks vs dy with
      | none => rw [this.1 e]; rfl
      | some d => obtain ⟨p, z, hz, _⟩ := this.2 d e; rw [hz]; rfl
    cases neg with
    | false => exact wpAny_in_heap (room_nk hu) (key_is I ry hk) ns (dictH I r rk ek nd ok) (by rw [hz]; exact k _ (I.tok _))
    | true => exact PyProof.Rows.wpAny_notIn_heap (room_nk hu) (key_is I ry hk) ns (dictH I r rk ek nd ok) (by rw [hz]; exact k _ (I.tok _))
/-- x[y] -/
theorem get_rep {Q : Value → Shared → Prop} (hu : X.A.units + 16 < cLine) (I : Inv X pins σ wd.H s) (ok : WOk wd) (rh : RepH X.prog X.w X.K L wd h) (rx : RepP X.prog X.w X.K L wd dx x) (ry : RepP X.prog X.w X.K L wd dy y) (rv : RelV x v) (ru : RelV y u) (e : ixD dx dy h = some d)
    (k : ∀ w' s' z, Inv X pins σ wd.H s' → RelV z w' → RepV X.prog X.w X.K L wd d z → Q w' s') : (∃ T id, s.TypeIs v T ∧ typeLookup (.type T) "__getitem__" = pure (some (.builtin id))) ∧ wpAny (model X.prog X.w) X.A (getItem v u) Q E s := by
  unfold ixD at e
  have hn := line63
  cases e1 : asD dx h with
  | some p =>
    obtain ⟨ks, vs⟩ := p
    rw [e1] at e
    dsimp only at e
    by_cases hk : kin ks dy = true
    · rw [if_pos hk] at e
      have hk1 := (kin_key hk).1
      have ry' := flat_repV hk1 ry
      obtain ⟨a, kk, vv, rfl, da, rk, rvs, nd, ok'⟩ := dct_at rh rx e1
      obtain rfl : v = Value.ref a := rv
      refine ⟨⟨"dict", "dict.__getitem__", ?_, slot_dict_getitem.lookup⟩, dict_get hu I (ask da rk rvs hk ry') nd ok' hk1 ry' ru e k⟩
      rcases da with ⟨kvs, r, _⟩ | ⟨xs, r, _⟩
      · obtain ⟨_, _, vs, _, dd⟩ := dk_rd I.hok r
        exact dd.typeIs
      · obtain ⟨⟨o, es, ep, h1, h2, h3, h4⟩, _, _⟩ := I.hok a _ r
        exact ⟨o, h1, h2.1⟩
    · rw [if_neg hk] at e; cases e
  | none =>
    rw [e1] at e
    dsimp only at e
    cases dy with
    | int i =>
      have := int_at ry
      subst this
      obtain ⟨t, rfl⟩ := ru
      cases e2 : asS dx h with
      | some xs =>
        rw [e2] at e
        dsimp only at e
        obtain ⟨a, vs, rfl, sq, rvs, hlen⟩ := seq_at ok rh rx e2
        obtain rfl : v = Value.ref a := rv
        cases e3 : place xs.length i with
        | none => rw [e3] at e; cases e
        | some j =>
          rw [e3] at e
          have e : xs[j]? = some d := e
          obtain ⟨z, hz, rz⟩ := rvs.get e
          rw [place_ixN, rvs.len] at e3
          obtain ⟨h1, h2, h3, h4⟩ := ixN_seq e3
          rcases sq with ⟨sq, _⟩ | ⟨sq, _⟩
          · obtain ⟨its, r, pl, hz'⟩ := I.list sq
            obtain ⟨w', ew, rw'⟩ := r.get hz
            have hl := r.length
            refine ⟨⟨"list", "list.__getitem__", pl.isList.typeIs, slot_list_getitem.lookup⟩, ?_⟩
            by_cases h0 : 0 ≤ i
            · have hj : i.toNat = j := by
                rw [seqIndex_of h0 h4] at h1
                exact Option.some.inj h1
              exact wpAny_getItem_list pl.isList h0 (by omega) (by rw [hj]; simpa using ew) (k _ _ z I rw' rz)
            · have hj : (i + (its.toArray.size : Int)).toNat = j := by
                rw [seqIndex_neg (by omega) h3] at h1
                rw [List.size_toArray, ← hl]
                exact Option.some.inj h1
              exact wpAny_getItem_list_neg pl.isList (by omega) (by rw [List.size_toArray] <;> omega) (by omega) (by rw [hj]; simpa using ew) (k _ _ z I rw' rz)
          · obtain ⟨its, r, pl, hz'⟩ := I.tuple sq
            obtain ⟨w', ew, rw'⟩ := r.get hz
            have hl := r.length
            exact ⟨⟨"tuple", "tuple.__getitem__", pl.typeIs, PyProof.Rows.slot_tuple_getitem.lookup⟩, PyProof.Rows.getItem_tuple (j := j) pl (by omega) (by omega) (by rw [List.size_toArray, ← hl]; exact h1) (by simpa using ew) (k _ _ z I rw' rz)⟩
      | none =>
        rw [e2] at e
        cases dx with
        | str ss =>
          dsimp only at e
          have := str_at rx
          subst this
          obtain ⟨t', rfl⟩ := rv
          have hs : ss.length ≤ most := Classical.byContradiction fun z => by rw [if_neg z] at e; cases e
          rw [if_pos hs] at e
          cases e3 : place ss.length i with
          | none => rw [e3] at e; cases e
          | some j =>
            rw [e3] at e
            simp only [Option.bind] at e
            cases e4 : ss[j]? with
            | none => rw [e4] at e; cases e
            | some c =>
              rw [e4] at e
              cases e
              rw [place_ixN] at e3
              obtain ⟨h1, h2, h3, h4⟩ := ixN_seq e3
              have hl : (strV ss).length = ss.length := by simp [strV, Str.length]
              refine ⟨⟨"str", "str.__getitem__", typeIs_str s _ t', PyProof.Rows.slot_str_getitem.lookup⟩, ?_⟩
              have : ss.length < 2 ^ 62 := by unfold most at hs; omega
              exact PyProof.Rows.getItem_str (c := c) (by
                have e1 : decide (i < -(2 ^ 63 : Int)) = false := decide_eq_false (by omega)
                have e2 : decide (i ≥ 2 ^ 63) = false := decide_eq_false (by omega)
                rw [e1, e2, Bool.or_false]) (by rw [hl, h1]; simpa [strV] using e4) (k _ _ (.str ⟨#[c]⟩) (I.tok _) ⟨_, rfl⟩ (by rw [RepV]; rfl))
        | _ => cases e
    | _ => cases e2 : asS dx h <;> (rw [e2] at e; cases e)
/-- x[y], a rule -/
theorem ix_rep (hu : X.A.units + 16 < cLine) : IxR X (RV2 (sy X L) fun x y h => ixD x y h) := fun value slice pins s σ H x y v u Q I rx ry ⟨h, wd, dx, dy, eH, ok, rh, r1, r2, d, e, g⟩ hs => by
  subst eH
  have gg : ∀ w' s' z, Inv X pins σ wd.H s' → RelV z w' → RepV X.prog X.w X.K L wd d z → EP X pins σ Q w' s' := fun w' s' z I' rz rd => ⟨z, wd.H, I', rz, g z wd (Ext.refl _) ok rh (by simp; exact rd)⟩
  obtain ⟨⟨T, id, hT, hl⟩, hq⟩ := get_rep (E := X.xe) hu I ok rh r1 r2 rx ry e gg
  unfold PyProof.Rows.subscriptTail
  refine wpAny_bind ?_
  rw [getitemInPython_of_ne hT.not_modules]
  refine wpAny_bind (wpAny_specialOf hT hl ?_)
  have fin : wpAny (model X.prog X.w) X.A (subscripted slice false v u) (fun r s₃ => wpAny (model X.prog X.w) X.A (letTemporaryGo value v r >>= fun _ => pure r) (EP X pins σ Q) X.xe s₃) X.xe s := by
    rw [hs]
    exact wpAny_operating (wpAny_mono hq (fun r s₃ h₃ => wpAny_bind (wpAny_letTemporaryGo (wpAny_pure h₃))) fun _ _ x => x)
  first
    | exact wpAny_pure (wpAny_bind fin)
    | exact wpAny_bind (wpAny_pure (wpAny_bind fin))
    | exact wpAny_bind fin
theorem get_pget (hu : X.A.units + 16 < cLine) : PGet X (RV2 (sy X L) fun x y h => ixD x y h) := fun pins s σ H x y v u Q I rx ry ⟨h, wd, dx, dy, eH, ok, rh, r1, r2, d, e, g⟩ => by
  subst eH
  exact (get_rep (E := X.xe) hu I ok rh r1 r2 rx ry e fun w' s' z I' rz rd => ⟨z, wd.H, I', rz, g z wd (Ext.refl _) ok rh (by simp; exact rd)⟩).2
/-- a container at p is written at a key -/
def RSetP (S : Sy) : TSet := fun o i v H Q => ∃ wd p ob ob' di dv, wd.H = H ∧ o = .ref p ∧ RepO S.P S.w S.K S.L wd p ob ∧ ¬ wd.Fz p ∧ RepV S.P S.w S.K S.L wd di i ∧ RepV S.P S.w S.K S.L wd dv v ∧ putO ob di dv = some ob' ∧
  ∀ ho, RepO S.P S.w S.K S.L (wd.put p ho) p ob' → Q (upd wd.H p ho)
theorem most_size {n : Nat} (h : n ≤ most) : n ≤ sizeLine := by rw [sizeLine_eq]; exact h
theorem set_rep (hu : X.A.units + 16 < cLine) : PSet X (RSetP (sy X L)) := fun pins s σ H o i v ov iv u Q I ro ri rv ⟨wd, p, ob, ob', di, dv, eH, eo, r, nf, r1, r2, e, g⟩ => by
  subst eH eo
  obtain rfl : ov = Value.ref p := ro
  have xf : ∀ ho, ExtF wd (wd.put p ho) := fun ho => ExtF.put wd ho nf
  cases ob with
  | ins _ _ => cases e
  | lst l =>
    obtain ⟨vs, h1, h2, h3⟩ := r
    cases di with
    | int k =>
      simp only [putO] at e
      cases e3 : place l.length k with
      | none => rw [e3] at e; cases e
      | some j =>
        rw [e3] at e
        cases e
        rw [RepV] at r1
        subst r1
        rw [place_ixN, h2.len] at e3
        exact set_list pins s σ wd.H (.ref p) (.int k) v (.ref p) iv u Q I rfl ri rv ⟨p, vs, k, j, rfl, rfl, h1, e3, g _ ⟨_, upd_same, (h2.set r2).extF (xf _), by simpa using h3⟩⟩
    | _ => cases e
  | dct ks vs =>
    obtain ⟨kk, vv, da, rk, rvs, nd, ok, nz⟩ := r
    simp only [putO] at e
    have hk : kin ks di = true ∧ ks.length < most := Classical.byContradiction fun z => by rw [if_neg z] at e; cases e
    rw [if_pos hk] at e
    cases e
    obtain ⟨hk, hlen⟩ := hk
    have hk1 := (kin_key hk).1
    have hl : ks.length = vs.length := by
      have := rk.len
      rcases da with ⟨kvs, _, rfl, rfl, _⟩ | ⟨xs, _, _, _, _, rfl, vl, _⟩
      · have h2 := rvs.len; simp at this h2; omega
      · have h2 := rvs.len; have h3 := vl.length; simp at this h3; omega
    have mem' : ∀ k ∈ (dput ks vs di dv).1, k ∈ ks ∨ k = di := by
      rw [(dput_keys hl).1]
      intro k hkm
      split at hkm
      · exact .inl hkm
      · rcases List.mem_append.mp hkm with q | q
        · exact .inl q
        · exact .inr (by simpa using q)
    have ok' : ∀ k ∈ (dput ks vs di dv).1, k.keyOk = true := fun k hkm => by
      rcases mem' k hkm with q | q
      · exact ok k q
      · rw [q]; exact hk1
    have nd' := dput_nodup (k := di) (d := dv) hl nd
    have strict : ∀ {u : HO}, Rd wd.H p u → wd.H p = some u := fun r => r.elim id fun ⟨o, r⟩ => absurd r (nz o _)
    have len' : (dput ks vs di dv).1.length ≤ sizeLine := by
      rw [(dput_keys hl).1, sizeLine_eq]
      unfold most at hlen
      split
      · omega
      · simp; omega
    -- tuple keys
    have tup : ∀ (b : Addr) (xs : List (NestedKey × Addr × Value)) (vv : List V), i = .ref b → Mut (wd.H p) → (p == sysModules) = false → xs.length ≤ sizeLine → s.heap.DictOfH (nestedKind X.prog X.w) p xs → RepVs X.prog X.w X.K L wd ks (xs.map fun x => V.ref x.2.1) → RepVs X.prog X.w X.K L wd vs vv → Vals vv (xs.map fun x => x.2.2) → ks.map nk = xs.map (·.1) →
        wpAny (model X.prog X.w) X.A (setItem (.ref p) iv u) (fun _ s' => ∃ H', Inv X pins σ H' s' ∧ Q H') X.xe s := fun b xs vv ei mu ns hxl hh rk rv' vl ek => by
      subst ei
      cases (show iv = Value.ref b from ri)
      have hf : di.flat = false := by
        cases di with
        | int _ => rw [RepV] at r1; cases r1
        | str _ => rw [RepV] at r1; cases r1
        | _ => rfl
      obtain ⟨vv', i1, i2, i3, i4⟩ := put_t (b := b) (u := u) (keyOk_key hk1).1 r1 r2 rv (fun x hx => (keyOk_key (ok x hx)).1) nd ek rk rv' vl
      refine wpAny_setItem_heap (hsz := hxl) (room_nk hu) (key_is I r1 hk1) hh fun h' hh' hs => ?_
      obtain ⟨q, es, ep, hq, h2, h3, h4, h5, h6⟩ := hh'
      have l1 := congrArg List.length i1
      simp only [List.length_map] at l1
      have I' : Inv X pins σ (upd wd.H p (tdO X.prog X.w p (storedH xs (nk di) b u))) { s with heap := h', toks := s.toks + (nestedKind X.prog X.w).draws (nk di) } :=
        d_write I mu hs ⟨q, hq⟩ ⟨⟨q, es, ep, hq, h2, h3, h4⟩, ⟨q, hq⟩, fun g1 g2 ⟨o, es, ep, a1, a2⟩ k => ⟨o, es, ep, k o a1, a2⟩⟩
      refine ⟨_, I', g _ ⟨_, vv', .inr ⟨_, upd_same, ns, by rw [← l1]; exact len', ?_, rfl, i4, i1, fun k hkm => ?_⟩, i2.extF (xf _), i3.extF (xf _), nd', ok', fun o u' z => ?_⟩⟩
      · intro z
        have := (dput_keys (k := di) (d := dv) hl).1
        rw [z] at this
        split at this
        · rename_i hm; rw [← this] at hm; cases hm
        · simp at this
      · have kf : k.flat = false := by
          rcases mem' k hkm with q | q
          · rw [(kin_key hk).2 k q]; exact hf
          · rw [q]; exact hf
        obtain ⟨_, _, q⟩ := keyOk_key (ok' k hkm)
        rw [kf] at q
        cases k with
        | tup ys => exact ⟨ys, rfl⟩
        | _ => simp [isTup] at q
      · have z : upd wd.H p (tdO X.prog X.w p (storedH xs (nk di) b u)) p = some (.frz o _) := z
        rw [upd_same] at z
        cases z
    have q := ask da rk rvs hk r1
    cases q with
    | flat kvs κ r hκ ey hkk rv' =>
      obtain ⟨c1, c2⟩ := put_k hκ r2 hkk nd rv'
      have kl : kvs.length < sizeLine := by
        have h1 := congrArg List.length hkk
        simp at h1
        rw [← h1, sizeLine_eq]; exact hlen
      have rk' : RepVs X.prog X.w X.K L wd (dput ks vs di dv).1 ((putK kvs κ v).map fun p => kV p.1) := by
        have : ∀ (l : List D) (m : List (Key × V)), l.map keyF = m.map (fun p => some p.1) → RepVs X.prog X.w X.K L wd l (m.map fun p => kV p.1) := by
          intro l
          induction l with
          | nil => intro m h; have : m = [] := by simpa using (congrArg List.length h).symm
                   subst this; exact .nil
          | cons a l ih =>
            intro m h
            cases m with
            | nil => simp at h
            | cons q m =>
              simp only [List.map_cons, List.cons.injEq] at h
              refine .cons ?_ (ih m h.2)
              cases a with
              | int j => have := Option.some.inj h.1; show RepV _ _ _ _ _ _ (kV q.1); rw [RepV, ← this]; rfl
              | str j => have := Option.some.inj h.1; show RepV _ _ _ _ _ _ (kV q.1); rw [RepV, ← this]; rfl
              | _ => cases h.1
        exact this _ _ c1
      exact d_setItem (y := i) (by omega) I (.inl ⟨kvs, κ, strict r, ey, kl, rfl⟩) ri rv fun s' I' => ⟨_, I', g _ ⟨_, _, .inl ⟨_, .inl upd_same, rfl, rfl, c1⟩, rk'.extF (xf _), c2.extF (xf _), nd', ok', fun o u z => by
        have z : upd wd.H p (.dK (putK kvs κ v)) p = some (.frz o _) := z
        rw [upd_same] at z
        cases z⟩⟩
    | empty b r ey e1 e2 =>
      subst e1 e2
      obtain ⟨ns, hh⟩ := emptyH I r
      exact tup b [] [] ey (by rw [strict r]; trivial) ns (by simp) hh .nil .nil .nil rfl
    | tup xs vv b ey r ns hxl rk rv vl ek => exact tup b xs vv ey (by rw [r]; trivial) ns hxl (dictH I r rk ek nd ok) rk rv vl ek
end
end Mi
end
section
set_option Elab.async false
set_option linter.all false
set_option maxRecDepth 100000
set_option maxHeartbeats 4000000
/-! Statements that write containers. -/
namespace Mi
open PySem L2
section
variable {X : Cx} {L : Ln} {call : CallT} {W : WX} {w0 : Wd}
theorem key_V {wd : Wd} {e : E} {en : MEnv} {d : D} {v : V} (h : if false = true then RepP X.prog X.w X.K L wd d v else RepV X.prog X.w X.K L wd d v) : RepV X.prog X.w X.K L wd d v := h
theorem rdV_step {e' : E} {σ : L2.St} {en : MEnv} {h : AH} {wd : Wd} {good : D → AH → Prop} {Q : VK} (st : Sat (sy X L) wd σ en h) (p : Post (sy X L) wd (fun c d => W c d σ) good (evV L.g call e' en h))
    (k : ∀ d h1 v wd1, good d h1 → Ext wd wd1 → Sat (sy X L) wd1 σ en h1 → RepV X.prog X.w X.K L wd1 d v → Q v wd1.H) : RdV (sy X L) call W e' σ wd.H Q :=
  ⟨en, h, wd, rfl, st, p.mono fun d h1 g v wd1 x1 ok1 rh1 r => k d h1 v wd1 g x1 (st.ext x1 ok1 rh1) r⟩
/-- an object of the heap is written -/
theorem heap_put {wd : Wd} {σ : L2.St} {en : MEnv} {h : AH} {n : Nat} {ob : MObj} {ho : HO} (st : Sat (sy X L) wd σ en h) (hn : n < wd.z) (ro : RepO X.prog X.w X.K L (wd.put (wd.ρ n) ho) (wd.ρ n) ob) :
    Ext wd (wd.put (wd.ρ n) ho) ∧ Sat (sy X L) (wd.put (wd.ρ n) ho) σ en (h.set n ob) := by
  obtain ⟨o', ho'⟩ : ∃ o', h[n]? = some o' := ⟨_, List.getElem?_eq_getElem (by rw [st.rh.1]; exact hn)⟩
  obtain ⟨u, e, n1, _⟩ := ro.pl
  have e : ho = u := Option.some.inj (upd_same.symm.trans e)
  subst e
  have x := Ext.hput st.ok hn (o := ho) n1
  exact ⟨x, st.ext x (st.ok.put (st.rh.2 n _ ho').pl n1) (RepH.hput st.ok st.rh hn ro)⟩
theorem len_of {wd : Wd} {h : AH} {n : Nat} {o : MObj} (rh : RepH X.prog X.w X.K L wd h) (e : h[n]? = some o) : n < wd.z := by rw [← rh.1]; exact (List.getElem?_eq_some_iff.mp e).1
theorem rs_six {st : Stmt} {a i v : E} (h : PS X st (tAsg (RdV (sy X L) call W v) (gSub (RdE (sy X L) call W a) (RdV (sy X L) call W i) (RSetP (sy X L))))) :
    PS X st (RdX (sy X L) w0 W (evS L.g call (.six a i v))) := h.impM fun D σ H ⟨en, h, wd, e1, f, p⟩ => by
  subst e1
  rw [evS] at p
  refine rdV_step f.st (post_exc f.ex p) fun d h1 vv wd1 g x1 st1 r => ?_
  refine rdE_step st1 (post_exc (f.ex.trans x1) (PostS.ext g (x1.f f.st.ok))) fun d2 h2 v2 wd2 g2 x2 st2 r2 _ => ?_
  refine rdV_step st2 (post_exc (f.ex.trans (x1.trans x2)) (PostS.ext g2 (x2.f st1.ok))) fun d3 h3 v3 wd3 g3 x3 st3 r3 => ?_
  cases d2 with
  | ref n =>
    dsimp only at g3
    cases q : (h3[n]?).bind fun o => putO o d3 d with
    | none => rw [q] at g3; exact g3.elim
    | some ob' =>
      rw [q] at g3
      obtain ⟨ob, e1, e2⟩ := Option.bind_eq_some_iff.mp q
      obtain ⟨hn, rfl⟩ := r2.ref
      have hn3 := len_of st3.rh e1
      have eρ : wd3.ρ n = wd2.ρ n := x3.ρ n hn
      have ro := st3.rh.2 n ob e1
      rw [eρ] at ro
      refine ⟨wd3, _, ob, ob', d3, d, rfl, rfl, ro, by rw [← eρ]; exact not_fz st3.ok hn3, r3, (r.ext x2 st1.ok).ext x3 st2.ok, e2, fun ho ro' => ?_⟩
      rw [← eρ] at ro' ⊢
      obtain ⟨x4, st4⟩ := heap_put st3 hn3 ro'
      exact g3 σ _ (f.ext (x1.trans (x2.trans (x3.trans x4))) st4) ((x3.trans x4).f st2.ok)
  | _ => exact g3.elim
theorem rs_iaug {st : Stmt} {a i v : E} {o : Bin} (h : PS X st (tAugS (RdE (sy X L) call W a) (RdV (sy X L) call W i) (RdE (sy X L) call W v) (RV2 (sy X L) fun x y h => ixD x y h) (RV2 (sy X L) fun x y _ => binI o x y) (RSetP (sy X L)))) :
    PS X st (RdX (sy X L) w0 W (evS L.g call (.iaug a i o v))) := h.impM fun D σ H ⟨en, h, wd, e1, f, p⟩ => by
  subst e1
  rw [evS] at p
  refine rdE_step f.st (post_exc f.ex p) fun d1 h1 v1 wd1 g x1 st1 r1 _ => ?_
  refine rdV_step st1 (post_exc (f.ex.trans x1) (PostS.ext g (x1.f f.st.ok))) fun d2 h2 v2 wd2 g2 x2 st2 r2 => ?_
  cases q1 : ixD d1 d2 h2 with
  | none => rw [q1] at g2; exact g2.elim
  | some z =>
    rw [q1] at g2
    dsimp only at g2
    refine ⟨h2, wd2, d1, d2, rfl, st2.ok, st2.rh, r1.ext x2 st1.ok, .inl r2, z, q1, fun vz wd3 x3 ok3 rh3 r3 => ?_⟩
    have r3 : RepV X.prog X.w X.K L wd3 z vz := r3
    have st3 := st2.ext x3 ok3 rh3
    refine rdE_step st3 (post_exc (f.ex.trans (x1.trans (x2.trans x3))) (PostS.ext g2 ((x2.trans x3).f st1.ok))) fun d4 h4 v4 wd4 g4 x4 st4 r4 _ => ?_
    cases q2 : binI o z d4 with
    | none => rw [q2] at g4; exact g4.elim
    | some y =>
      rw [q2] at g4
      cases d1 with
      | ref n =>
        dsimp only at g4
        refine ⟨h4, wd4, z, d4, rfl, st4.ok, st4.rh, .inl (r3.ext x4 ok3), r4, y, q2, fun vy wd5 x5 ok5 rh5 r5 => ?_⟩
        have r5 : RepV X.prog X.w X.K L wd5 y vy := r5
        have st5 := st4.ext x5 ok5 rh5
        cases q : (h4[n]?).bind fun o => putO o d2 y with
        | none => rw [q] at g4; exact g4.elim
        | some ob' =>
          rw [q] at g4
          obtain ⟨ob, e1, e2⟩ := Option.bind_eq_some_iff.mp q
          obtain ⟨hn, rfl⟩ := r1.ref
          have hn5 := len_of st5.rh e1
          have x25 := x2.trans (x3.trans (x4.trans x5))
          have eρ : wd5.ρ n = wd1.ρ n := x25.ρ n hn
          have ro := st5.rh.2 n ob e1
          rw [eρ] at ro
          refine ⟨wd5, _, ob, ob', d2, y, rfl, rfl, ro, by rw [← eρ]; exact not_fz st5.ok hn5, r2.ext (x3.trans (x4.trans x5)) st2.ok, r5, e2, fun ho ro' => ?_⟩
          rw [← eρ] at ro' ⊢
          obtain ⟨x6, st6⟩ := heap_put st5 hn5 ro'
          exact g4 σ _ (f.ext (x1.trans (x25.trans x6)) st6) ((x4.trans (x5.trans x6)).f ok3)
      | _ => exact g4.elim
/-- an owned container is written -/
theorem own_put {wd : Wd} {σ : L2.St} {en : MEnv} {h : AH} {i : Nat} {d : D} {p : Addr} {ob : MObj} {ho : HO} (f : Frm (sy X L) w0 wd σ en h) (e : en[i]? = some (.o d)) (es : σ[i]? = some (some (.ref p))) (hob : objD ob.d = some ob)
    (ro : RepO X.prog X.w X.K L (wd.put p ho) p ob) : Frm (sy X L) w0 (wd.put p ho) σ (en.set i (.o ob.d)) h ∧ ExtF wd (wd.put p ho) := by
  obtain ⟨p', hp, ow⟩ := f.st.re.at_ i _ _ e es
  cases hp
  have np := f.on i d p e es
  have xf := ExtF.put wd ho ow.2.1
  have x := f.ex.put (o := ho) np
  have hi := (List.getElem?_eq_some_iff.mp e).1
  have ow' : Own X.prog X.w X.K L (wd.put p ho) ob.d p := ⟨⟨ob, hob, ro⟩, ow.2.1, ow.2.2⟩
  obtain ⟨u, eu, n1, _⟩ := ro.pl
  have eu : ho = u := Option.some.inj (upd_same.symm.trans eu)
  subst eu
  refine ⟨⟨⟨f.st.ok.put ow.pl n1, f.st.rh.put ow.2.1 ow.2.2, ⟨by rw [List.length_set, f.st.re.len], fun j s v h1 h2 => ?_, f.st.re.tb, fun j k a b q h1 h2 h3 h4 => ?_⟩⟩, x, fun j a q h1 h2 => ?_⟩, xf⟩
  · by_cases q : i = j
    · subst q
      rw [List.getElem?_set_self hi] at h1
      cases h1
      rw [es] at h2
      cases h2
      exact ⟨p, rfl, ow'⟩
    · rw [List.getElem?_set_ne q] at h1
      have r := f.st.re.at_ j s v h1 h2
      cases s with
      | un => trivial
      | v a => obtain ⟨x, e1, e2⟩ := r; exact ⟨x, e1, e2.extF xf⟩
      | o a =>
        obtain ⟨p2, e1, ⟨⟨o, e2, e3⟩, e4, e5⟩⟩ := r
        have ne : p2 ≠ p := fun z => by
          subst z
          exact q (f.st.re.own i j d a p2 e h1 es (by rw [h2, e1]))
        exact ⟨p2, e1, ⟨⟨o, e2, e3.extF xf (upd_ne ne)⟩, e4, e5⟩⟩
  · have w1 : ∃ a, en[j]? = some (.o a) := by
      by_cases z : i = j
      · subst z; exact ⟨d, e⟩
      · rw [List.getElem?_set_ne z] at h1; exact ⟨a, h1⟩
    have w2 : ∃ a, en[k]? = some (.o a) := by
      by_cases z : i = k
      · subst z; exact ⟨d, e⟩
      · rw [List.getElem?_set_ne z] at h2; exact ⟨b, h2⟩
    obtain ⟨a1, w1⟩ := w1
    obtain ⟨a2, w2⟩ := w2
    exact f.st.re.own j k a1 a2 q w1 w2 h3 h4
  · by_cases z : i = j
    · subst z
      rw [es] at h2
      cases h2
      exact np
    · rw [List.getElem?_set_ne z] at h1
      exact f.on j a q h1 h2
theorem objD_d {d : D} {o : MObj} (h : objD d = some o) : objD o.d = some o := by
  cases d <;> first | (cases h; rfl) | cases h
theorem putO_d {o o' : MObj} {i v : D} (h : putO o i v = some o') (h' : objD o.d = some o) : objD o'.d = some o' := by
  cases o with
  | lst l =>
    cases i with
    | int k =>
      simp only [putO] at h
      cases e : place l.length k with
      | none => rw [e] at h; cases h
      | some j => rw [e] at h; cases h; rfl
    | _ => cases h
  | dct ks vs =>
    simp only [putO] at h
    split at h
    · cases h; rfl
    · cases h
  | ins _ _ => cases h
theorem own_at {wd : Wd} {σ : L2.St} {en : MEnv} {h : AH} {i : Nat} {d : D} (st : Sat (sy X L) wd σ en h) (e : en[i]? = some (.o d)) : ∃ p, σ[i]? = some (some (.ref p)) ∧ Own X.prog X.w X.K L wd d p := by
  have hi : i < σ.length := by rw [← st.re.len]; exact (List.getElem?_eq_some_iff.mp e).1
  obtain ⟨p, h1, h2⟩ := st.re.at_ i _ _ e (List.getElem?_eq_getElem hi)
  exact ⟨p, by rw [List.getElem?_eq_getElem hi, h1], h2⟩
theorem rs_osix {st : Stmt} {s : Nat} {i v : E} (h : PS X st (tAsg (RdV (sy X L) call W v) (gSub (tVar s) (RdV (sy X L) call W i) (RSetP (sy X L))))) :
    PS X st (RdX (sy X L) w0 W (evS L.g call (.osix s i v))) := h.impM fun D σ H ⟨en, h, wd, e1, f, p⟩ => by
  subst e1
  rw [evS] at p
  refine rdV_step f.st (post_exc f.ex p) fun d h1 vv wd1 g x1 st1 r => ?_
  cases es : en[s]? with
  | none => rw [es] at g; exact g.elim
  | some sl =>
    rw [es] at g
    cases sl with
    | o x =>
      dsimp only at g
      obtain ⟨p, hp, ow⟩ := own_at st1 es
      refine ⟨.ref p, hp, rdV_step st1 (post_exc (f.ex.trans x1) (PostS.ext g (x1.f f.st.ok))) fun d2 h2 v2 wd2 g2 x2 st2 r2 => ?_⟩
      cases q : (objD x).bind fun o => putO o d2 d with
      | none => rw [q] at g2; exact g2.elim
      | some ob' =>
        rw [q] at g2
        obtain ⟨ob, e1, e2⟩ := Option.bind_eq_some_iff.mp q
        obtain ⟨⟨ob2, e3, ro⟩, nf, nr⟩ := ow.ext x2 st1.ok
        rw [e1] at e3
        cases e3
        refine ⟨wd2, p, ob, ob', d2, d, rfl, rfl, ro, nf, r2, r.ext x2 st1.ok, e2, fun ho ro' => ?_⟩
        obtain ⟨f3, x3⟩ := own_put (f.ext (x1.trans x2) st2) es hp (putO_d e2 (objD_d e1)) ro'
        exact g2 σ _ f3 ((x2.f st1.ok).trans x3)
    | _ => exact g.elim
theorem rs_oaug {st : Stmt} {s : Nat} {i v : E} {o : Bin} (h : PS X st (tAugS (tVar s) (RdV (sy X L) call W i) (RdE (sy X L) call W v) (RV2 (sy X L) fun x y h => ixD x y h) (RV2 (sy X L) fun x y _ => binI o x y) (RSetP (sy X L)))) :
    PS X st (RdX (sy X L) w0 W (evS L.g call (.oaug s i o v))) := h.impM fun D σ H ⟨en, h, wd, e1, f, p⟩ => by
  subst e1
  rw [evS] at p
  cases es : en[s]? with
  | none => rw [es] at p; exact p.elim
  | some sl =>
    rw [es] at p
    cases sl with
    | o x =>
      dsimp only at p
      obtain ⟨a, hp, ow⟩ := own_at f.st es
      refine ⟨.ref a, hp, rdV_step f.st (post_exc f.ex p) fun d2 h2 v2 wd2 g2 x2 st2 r2 => ?_⟩
      cases q1 : ixD x d2 h2 with
      | none => rw [q1] at g2; exact g2.elim
      | some z =>
        rw [q1] at g2
        dsimp only at g2
        refine ⟨h2, wd2, x, d2, rfl, st2.ok, st2.rh, .inr ⟨a, rfl, ow.ext x2 f.st.ok⟩, .inl r2, z, q1, fun vz wd3 x3 ok3 rh3 r3 => ?_⟩
        have r3 : RepV X.prog X.w X.K L wd3 z vz := r3
        have st3 := st2.ext x3 ok3 rh3
        refine rdE_step st3 (post_exc (f.ex.trans (x2.trans x3)) (PostS.ext g2 ((x2.trans x3).f f.st.ok))) fun d4 h4 v4 wd4 g4 x4 st4 r4 _ => ?_
        cases q2 : binI o z d4 with
        | none => rw [q2] at g4; exact g4.elim
        | some y =>
          rw [q2] at g4
          dsimp only at g4
          refine ⟨h4, wd4, z, d4, rfl, st4.ok, st4.rh, .inl (r3.ext x4 ok3), r4, y, q2, fun vy wd5 x5 ok5 rh5 r5 => ?_⟩
          have r5 : RepV X.prog X.w X.K L wd5 y vy := r5
          have st5 := st4.ext x5 ok5 rh5
          cases q : (objD x).bind fun o => putO o d2 y with
          | none => rw [q] at g4; exact g4.elim
          | some ob' =>
            rw [q] at g4
            obtain ⟨ob, e1, e2⟩ := Option.bind_eq_some_iff.mp q
            have x25 := x2.trans (x3.trans (x4.trans x5))
            obtain ⟨⟨ob2, e3, ro⟩, nf, nr⟩ := ow.ext x25 f.st.ok
            rw [e1] at e3
            cases e3
            refine ⟨wd5, a, ob, ob', d2, y, rfl, rfl, ro, nf, r2.ext (x3.trans (x4.trans x5)) st2.ok, r5, e2, fun ho ro' => ?_⟩
            obtain ⟨f6, x6⟩ := own_put (f.ext x25 st5) es hp (putO_d e2 (objD_d e1)) ro'
            exact g4 σ _ f6 (((x4.trans x5).f ok3).trans x6)
    | _ => exact p.elim
end
end Mi
end
section
set_option Elab.async false
set_option linter.all false
set_option maxRecDepth 100000
set_option maxHeartbeats 4000000
/-! Operators by value. -/
namespace Mi
open PySem L2

/-! ### data -/
mutual
def pd : D → PyData
  | .bl b => .bool b
  | .int i => .int i
  | .str s => .str (strV s)
  | .tup xs => .tuple (pds xs)
  | .lst xs => .list (pds xs)
  | _ => .none
def pds : List D → List PyData
  | [] => []
  | x :: xs => pd x :: pds xs
end
theorem pds_len : ∀ xs : List D, (pds xs).length = xs.length
  | [] => rfl
  | x :: xs => by rw [pds, List.length_cons, pds_len xs]; rfl
theorem strV_beq (a b : List Nat) : (strV a == strV b) = (a == b) := by
  by_cases h : a = b
  · subst h; simp
  · rw [beq_eq_false_iff_ne.mpr h, beq_eq_false_iff_ne.mpr fun z => h (strV_inj z)]
mutual
theorem eqv_pd : ∀ (a b : D), a.plain = true → b.plain = true → PyData.eqv (pd a) (pd b) = D.eqv a b
  | .non, b, _, hb => by cases b <;> first | rfl | (simp [D.plain] at hb; done) | simp [pd, PyData.eqv, D.eqv]
  | .bl _, b, _, hb => by cases b <;> first | rfl | (simp [D.plain] at hb; done) | simp [pd, PyData.eqv, D.eqv]
  | .int _, b, _, hb => by cases b <;> first | rfl | (simp [D.plain] at hb; done) | simp [pd, PyData.eqv, D.eqv]
  | .str _, b, _, hb => by cases b <;> first | (simp [D.plain] at hb; done) | simp [pd, PyData.eqv, D.eqv, strV_beq]
  | .tup xs, b, ha, hb => by
    cases b with
    | tup ys => simp only [pd, PyData.eqv, D.eqv]; exact eqvs_pd xs ys (by simpa [D.plain] using ha) (by simpa [D.plain] using hb)
    | _ => first | (simp [D.plain] at hb; done) | simp [pd, PyData.eqv, D.eqv]
  | .lst xs, b, ha, hb => by
    cases b with
    | lst ys => simp only [pd, PyData.eqv, D.eqv]; exact eqvs_pd xs ys (by simpa [D.plain] using ha) (by simpa [D.plain] using hb)
    | _ => first | (simp [D.plain] at hb; done) | simp [pd, PyData.eqv, D.eqv]
  | .dct _ _, _, ha, _ => by simp [D.plain] at ha
  | .set _, _, ha, _ => by simp [D.plain] at ha
  | .ref _, _, ha, _ => by simp [D.plain] at ha
  | .fn _, _, ha, _ => by simp [D.plain] at ha
  | .cls _, _, ha, _ => by simp [D.plain] at ha
  | .ty _, _, ha, _ => by simp [D.plain] at ha
theorem eqvs_pd : ∀ (a b : List D), D.plains a = true → D.plains b = true → PyData.eqvAll (pds a) (pds b) = D.eqvs a b
  | [], [], _, _ => rfl
  | [], _ :: _, _, _ => rfl
  | _ :: _, [], _, _ => rfl
  | a :: as, b :: bs, ha, hb => by
    simp only [D.plains, Bool.and_eq_true] at ha hb
    simp only [pds, PyData.eqvAll, D.eqvs]
    rw [eqv_pd a b ha.1 hb.1, eqvs_pd as bs ha.2 hb.2]
end
mutual
theorem pd_lay : ∀ (a : D), a.plain = true → (pd a).canLay0 = true
  | .str s, h => by
    simp only [D.plain, List.all_eq_true, decide_eq_true_eq] at h
    simp only [pd, PyData.canLay0, PyData.strOk, strV, Array.all_eq_true, decide_eq_true_eq]
    intro i hi
    simp at hi
    exact h _ (by simp)
  | .tup xs, h => by simp only [pd, PyData.canLay0]; exact pds_lay xs (by simpa [D.plain] using h)
  | .lst xs, h => by simp only [pd, PyData.canLay0]; exact pds_lay xs (by simpa [D.plain] using h)
  | .non, _ => rfl
  | .bl _, _ => rfl
  | .int _, _ => rfl
  | .dct _ _, _ => rfl
  | .set _, _ => rfl
  | .ref _, _ => rfl
  | .fn _, _ => rfl
  | .cls _, _ => rfl
  | .ty _, _ => rfl
theorem pds_lay : ∀ (a : List D), D.plains a = true → PyData.canLayAll0 (pds a) = true
  | [], _ => rfl
  | a :: as, h => by
    simp only [D.plains, Bool.and_eq_true] at h
    simp only [pds, PyData.canLayAll0, pd_lay a h.1, pds_lay as h.2, Bool.and_self]
end
mutual
theorem pd_depth : ∀ (a : D), (pd a).depth ≤ a.depth
  | .tup xs => by simp only [pd, PyData.depth, D.depth]; have := pds_depth xs; omega
  | .lst xs => by simp only [pd, PyData.depth, D.depth]; have := pds_depth xs; omega
  | .str _ => by simp [pd, PyData.depth]
  | .non => by simp [pd, PyData.depth]
  | .bl _ => by simp [pd, PyData.depth]
  | .int _ => by simp [pd, PyData.depth]
  | .dct _ _ => by simp [pd, PyData.depth]
  | .set _ => by simp [pd, PyData.depth]
  | .ref _ => by simp [pd, PyData.depth]
  | .fn _ => by simp [pd, PyData.depth]
  | .cls _ => by simp [pd, PyData.depth]
  | .ty _ => by simp [pd, PyData.depth]
theorem pds_depth : ∀ (a : List D), PyData.depthAll (pds a) ≤ D.depths a
  | [] => Nat.le_refl _
  | a :: as => by simp only [pds, PyData.depthAll, D.depths]; have := pd_depth a; have := pds_depth as; omega
end
theorem cmpable_of {d : D} (h : d.cmpable = true) : d.plain = true ∧ d.depth ≤ 60 := by
  simpa [D.cmpable] using h
theorem shaped_of {d : D} (h : d.cmpable = true) : SeqAt.shaped (pd d) = true := by
  obtain ⟨h1, h2⟩ := cmpable_of h
  unfold SeqAt.shaped
  rw [pd_lay d h1, Bool.true_and, decide_eq_true_eq]
  have := pd_depth d
  omega
section
variable {X : Cx} {L : Ln} {wd : Wd} {call : CallT} {W : WX}
mutual
theorem dp_of {P w K} : ∀ {d : D} {v : V}, RepV P w K L wd d v → d.plain = true → Dp K wd.H v (pd d)
  | .non, v, r, _ => by rw [RepV] at r; subst r; exact .non
  | .bl b, v, r, _ => by rw [RepV] at r; subst r; exact .bl b
  | .int i, v, r, _ => by rw [RepV] at r; subst r; exact .int i
  | .str s, v, r, _ => by rw [RepV] at r; subst r; exact .str _
  | .tup xs, v, r, h => by
    rw [RepV] at r
    obtain ⟨a, vs, rfl, r1, r2, _⟩ := r
    refine .tup (xs := vs) ?_ (dps_of r2 (by simpa [D.plain] using h))
    rcases r1 with ⟨_, r1⟩ | r1
    · exact .inl r1
    · exact .inr r1
  | .lst xs, v, r, h => by
    rw [RepV] at r
    obtain ⟨a, vs, rfl, r1, r2, _⟩ := r
    refine .lst (xs := vs) ?_ (dps_of r2 (by simpa [D.plain] using h))
    rcases r1 with ⟨_, r1⟩ | r1
    · exact .inl r1
    · exact .inr r1
  | .dct _ _, _, _, h => by simp [D.plain] at h
  | .set _, _, _, h => by simp [D.plain] at h
  | .ref _, _, _, h => by simp [D.plain] at h
  | .fn _, _, _, h => by simp [D.plain] at h
  | .cls _, _, _, h => by simp [D.plain] at h
  | .ty _, _, _, h => by simp [D.plain] at h
theorem dps_of {P w K} : ∀ {ds : List D} {vs : List V}, RepVs P w K L wd ds vs → D.plains ds = true → DpAll K wd.H vs (pds ds)
  | [], vs, r, _ => by rw [r.nil_inv]; exact .nil
  | d :: ds, vs, r, h => by
    obtain ⟨v, vr, rfl, r1, r2⟩ := r.inv
    simp only [D.plains, Bool.and_eq_true] at h
    exact .cons (dp_of r1 h.1) (dps_of r2 h.2)
end
theorem dp_ofP {P w K} {d : D} {v : V} (r : RepP P w K L wd d v) (h : d.plain = true) : Dp K wd.H v (pd d) := by
  rcases r with r | ⟨p, rfl, ⟨⟨o, ho, ro⟩, _, _⟩⟩
  · exact dp_of r h
  · cases d with
    | lst xs =>
      cases ho
      obtain ⟨vs, h1, h2, _⟩ := ro
      exact .lst (xs := vs) (.inl (.inl h1)) (dps_of h2 (by simpa [D.plain] using h))
    | dct _ _ => simp [D.plain] at h
    | _ => cases ho
/-- a pure answer, told -/
theorem good_at {S : Sy} {wd : Wd} {h : AH} {Q : VK} {d : D} {v : V} (g : Good S wd false Q d h) (ok : WOk wd) (rh : RepH S.P S.w S.K S.L wd h) (r : RepV S.P S.w S.K S.L wd d v) : Q v wd.H := g v wd (Ext.refl _) ok rh (by simpa using r)
theorem _root_.L2.OpR.imp {f : Value → Value → Sem Value} {r r' : R2} (h : OpR X f r) (k : ∀ x y H Q, r' x y H Q → r x y H Q) : OpR X f r' := fun pins s σ H x y v u Q I rx ry q => h pins s σ H x y v u Q I rx ry (k _ _ _ _ q)
theorem op_eq_rep (hu : X.A.units + 64 < cLine) : OpR X (compareOp .Eq) (RV2 (sy X L) fun x y h => cmpD .eq x y h) := (op_eqD hu).imp fun x y H Q ⟨h, wd, dx, dy, eH, ok, rh, rx, ry, d, e, g⟩ => by
  subst eH
  simp only [cmpD] at e
  have hc : dx.cmpable = true ∧ dy.cmpable = true := Classical.byContradiction fun z => by rw [if_neg z] at e; cases e
  rw [if_pos hc] at e
  cases e
  have c1 := (cmpable_of hc.1).1
  have c2 := (cmpable_of hc.2).1
  refine ⟨pd dx, pd dy, dp_ofP rx c1, dp_ofP ry c2, shaped_of hc.1, shaped_of hc.2, ?_⟩
  rw [eqv_pd _ _ c1 c2]
  exact good_at g ok rh (by rw [RepV])
theorem op_ne_rep (hu : X.A.units + 64 < cLine) : OpR X (compareOp .NotEq) (RV2 (sy X L) fun x y h => cmpD .ne x y h) := (op_neD hu).imp fun x y H Q ⟨h, wd, dx, dy, eH, ok, rh, rx, ry, d, e, g⟩ => by
  subst eH
  simp only [cmpD] at e
  have hc : dx.cmpable = true ∧ dy.cmpable = true := Classical.byContradiction fun z => by rw [if_neg z] at e; cases e
  rw [if_pos hc] at e
  cases e
  have c1 := (cmpable_of hc.1).1
  have c2 := (cmpable_of hc.2).1
  refine ⟨pd dx, pd dy, dp_ofP rx c1, dp_ofP ry c2, shaped_of hc.1, shaped_of hc.2, ?_⟩
  rw [eqv_pd _ _ c1 c2]
  exact good_at g ok rh (by rw [RepV])
theorem rep_non {P w K} {d : D} (r : RepV P w K L wd d .non) : d = .non := by
  cases d with
  | non => rfl
  | tup _ => rw [RepV] at r; obtain ⟨_, _, e, _⟩ := r; cases e
  | lst _ => rw [RepV] at r; obtain ⟨_, _, e, _⟩ := r; cases e
  | dct _ _ => rw [RepV] at r; obtain ⟨_, _, _, e, _⟩ := r; cases e
  | ref _ => rw [RepV] at r; obtain ⟨_, e⟩ := r; cases e
  | set _ => rw [RepV] at r; exact r.elim
  | _ => rw [RepV] at r; cases r
theorem op_is_rep : OpR X (compareOp .Is) (RV2 (sy X L) fun x y h => cmpD .is x y h) := op_isN.imp fun x y H Q ⟨h, wd, dx, dy, eH, ok, rh, rx, ry, d, e, g⟩ => by
  subst eH
  cases dy with
  | non =>
    cases e
    have ey : y = .non := by
      rcases ry with r | ⟨p, _, ⟨⟨o, ho, _⟩, _⟩⟩
      · rw [RepV] at r; exact r
      · cases ho
    refine ⟨ey, ?_⟩
    have : decide (x = .non) = decide (dx = .non) := by
      by_cases q : dx = .non
      · subst q
        rcases rx with r | ⟨p, _, ⟨⟨o, ho, _⟩, _⟩⟩
        · rw [RepV] at r; simp [r]
        · cases ho
      · rw [decide_eq_false q]
        refine decide_eq_false fun z => ?_
        subst z
        rcases rx with r | ⟨p, e, _⟩
        · exact q (rep_non r)
        · cases e
    rw [this]
    exact good_at g ok rh (by rw [RepV])
  | _ => cases e
theorem op_isn_rep : OpR X (compareOp .IsNot) (RV2 (sy X L) fun x y h => cmpD .isn x y h) := op_notN.imp fun x y H Q ⟨h, wd, dx, dy, eH, ok, rh, rx, ry, d, e, g⟩ => by
  subst eH
  cases dy with
  | non =>
    cases e
    have ey : y = .non := by
      rcases ry with r | ⟨p, _, ⟨⟨o, ho, _⟩, _⟩⟩
      · rw [RepV] at r; exact r
      · cases ho
    refine ⟨ey, ?_⟩
    have : decide (x = .non) = decide (dx = .non) := by
      by_cases q : dx = .non
      · subst q
        rcases rx with r | ⟨p, _, ⟨⟨o, ho, _⟩, _⟩⟩
        · rw [RepV] at r; simp [r]
        · cases ho
      · rw [decide_eq_false q]
        refine decide_eq_false fun z => ?_
        subst z
        rcases rx with r | ⟨p, e, _⟩
        · exact q (rep_non r)
        · cases e
    rw [this]
    exact good_at g ok rh (by rw [RepV])
  | _ => cases e
end
end Mi
end
section
set_option Elab.async false
set_option linter.all false
set_option maxRecDepth 100000
set_option maxHeartbeats 800000
/-! Order; arithmetic; membership; truth. -/
namespace Mi
open PySem L2

def cop : Cmp → CmpOp
  | .lt => .Lt | .le => .LtE | .gt => .Gt | .ge => .GtE
  | .eq => .Eq | .ne => .NotEq | .is => .Is | .isn => .IsNot | .in => .In | .nin => .NotIn
/-! ### order -/
theorem lexAt_shift (e r : Nat → Bool) (z : Bool) : ∀ (k i : Nat), Ob.lexAt e r z (i + 1) k = Ob.lexAt (fun j => e (j + 1)) (fun j => r (j + 1)) z i k
  | 0, i => rfl
  | k + 1, i => by
    rw [Ob.lexAt_succ, Ob.lexAt_succ, lexAt_shift e r z k (i + 1)]
def zOf (o : Cmp) (m n : Nat) : Bool := match o with
  | .lt => decide (m < n)
  | .le => decide (m ≤ n)
  | .gt => decide (n < m)
  | .ge => decide (n ≤ m)
  | _ => false
theorem rcs_lex {o : Cmp} : ∀ (xs ys : List D) {b : Bool}, D.rcs o xs ys = some b → Ob.lexAt (fun j => D.eqv (xs.getD j .non) (ys.getD j .non)) (fun j => (D.rc o (xs.getD j .non) (ys.getD j .non)).getD false) (zOf o xs.length ys.length) 0 (min xs.length ys.length) = b
  | [], [], b, h => by cases o <;> simp [D.rcs, rcI] at h <;> simp [zOf, Ob.lexAt_zero, ← h]
  | [], y :: ys, b, h => by cases o <;> simp [D.rcs, rcI] at h <;> simp [zOf, Ob.lexAt_zero, ← h]
  | x :: xs, [], b, h => by cases o <;> simp [D.rcs, rcI] at h <;> simp [zOf, Ob.lexAt_zero, ← h]
  | x :: xs, y :: ys, b, h => by
    rw [D.rcs] at h
    have e0 : min (x :: xs).length (y :: ys).length = min xs.length ys.length + 1 := by simp
    have ez : zOf o (x :: xs).length (y :: ys).length = zOf o xs.length ys.length := by cases o <;> simp [zOf]
    rw [e0, ez, Ob.lexAt_succ]
    simp only [List.getD_cons_zero]
    by_cases q : D.eqv x y = true
    · rw [if_pos q] at h
      rw [if_pos q, lexAt_shift]
      simp only [List.getD_cons_succ]
      exact rcs_lex xs ys h
    · rw [if_neg q] at h
      rw [if_neg q]
      cases e : D.rcs o xs ys with
      | none => rw [e] at h; cases h
      | some c => rw [e] at h; have h : D.rc o x y = some b := h; rw [h]; rfl
theorem rcs_some {o : Cmp} : ∀ (xs ys : List D) {b : Bool}, D.rcs o xs ys = some b → ∀ j, j < xs.length → j < ys.length → D.eqv (xs.getD j .non) (ys.getD j .non) = false → ∃ c, D.rc o (xs.getD j .non) (ys.getD j .non) = some c
  | x :: xs, y :: ys, b, h, 0, _, _, he => by
    rw [D.rcs] at h
    simp only [List.getD_cons_zero] at he ⊢
    rw [if_neg (by rw [he]; simp)] at h
    cases e : D.rcs o xs ys with
    | none => rw [e] at h; cases h
    | some c => rw [e] at h; exact ⟨b, h⟩
  | x :: xs, y :: ys, b, h, j + 1, h1, h2, he => by
    rw [D.rcs] at h
    simp only [List.getD_cons_succ] at he ⊢
    have : ∃ b', D.rcs o xs ys = some b' := by
      by_cases q : D.eqv x y = true
      · rw [if_pos q] at h; exact ⟨b, h⟩
      · rw [if_neg q] at h
        cases e : D.rcs o xs ys with
        | none => rw [e] at h; cases h
        | some c => exact ⟨c, rfl⟩
    obtain ⟨b', h'⟩ := this
    exact rcs_some xs ys h' j (by simpa using h1) (by simpa using h2) he
theorem strV_lt (a b : List Nat) : (strV a).cps.toList < (strV b).cps.toList ↔ a < b := by simp [strV]
theorem depth_get : ∀ (xs : List D) (j : Nat), (xs.getD j .non).depth ≤ D.depths xs
  | [], _ => by simp [D.depth]
  | x :: xs, 0 => by simp [D.depths]; omega
  | x :: xs, j + 1 => by simp only [List.getD_cons_succ, D.depths]; have := depth_get xs j; omega
theorem plain_get : ∀ (xs : List D) (j : Nat), D.plains xs = true → (xs.getD j .non).plain = true
  | [], _, _ => by simp [D.plain]
  | x :: xs, 0, h => by simp only [D.plains, Bool.and_eq_true] at h; simpa using h.1
  | x :: xs, j + 1, h => by simp only [D.plains, Bool.and_eq_true] at h; simpa using plain_get xs j h.2
section
variable {X : Cx} {L : Ln} {wd : Wd} {pins : List (Addr × PySem.Obj)} {σ : L2.St} {s : Shared}
theorem items_at {P w K} {xs : List D} {vs : List V} {its : List Value} (r : RepVs P w K L wd xs vs) (rv : Vals vs its) {j : Nat} (h : j < its.length) : ∃ v, RepV P w K L wd (xs.getD j .non) v ∧ RelV v its[j] := by
  have l1 := r.len
  have l2 := rv.length
  have hj : j < vs.length := by omega
  obtain ⟨u, hu, ru⟩ := rv.get (List.getElem?_eq_getElem hj)
  obtain ⟨d, hd, rd⟩ := r.get' (List.getElem?_eq_getElem hj)
  rw [List.getElem?_eq_getElem h] at hu
  cases hu
  exact ⟨_, by rw [List.getD_eq_getElem?_getD, hd]; exact rd, ru⟩
theorem rc_int {o : Cmp} (ho : o = .lt ∨ o = .le ∨ o = .gt ∨ o = .ge) {i j : Int} {b : Bool} {A : Around} {s : Shared} {t t' : Tok} (h : rcI o i j = some b) : Ob.RcOp (cop o) A s (.int i t) (.int j t') b := by
  rcases ho with rfl | rfl | rfl | rfl
  · obtain rfl := Option.some.inj h; exact Ob.RcOp.lt_int i j t t'
  · obtain rfl := Option.some.inj h; exact Ob.RcOp.le_int i j t t'
  · obtain rfl := Option.some.inj h; exact Ob.RcOp.gt_int i j t t'
  · obtain rfl := Option.some.inj h; exact Ob.RcOp.ge_int i j t t'
theorem dec_strV {a b : List Nat} : decide ((strV a).cps.toList < (strV b).cps.toList) = decide (a < b) := decide_eq_decide.mpr (strV_lt a b)
theorem rc_str {o : Cmp} (ho : o = .lt ∨ o = .le ∨ o = .gt ∨ o = .ge) {i j : List Nat} {b : Bool} {A : Around} {s : Shared} {t t' : Tok} (h : rcS o i j = some b) : Ob.RcOp (cop o) A s (.str (strV i) t) (.str (strV j) t') b := by
  rcases ho with rfl | rfl | rfl | rfl
  · obtain rfl := Option.some.inj h; rw [← dec_strV]; exact fun _ _ _ _ q => PyProof.Rows.lt_str q
  · obtain rfl := Option.some.inj h; rw [← dec_strV]; exact fun _ _ _ _ q => PySem.P.le_str q
  · obtain rfl := Option.some.inj h; rw [← dec_strV]; exact fun _ _ _ _ q => PySem.P.gt_str q
  · obtain rfl := Option.some.inj h; rw [← dec_strV]; exact fun _ _ _ _ q => PySem.P.ge_str q
theorem rc_tup {o : Cmp} (ho : o = .lt ∨ o = .le ∨ o = .gt ∨ o = .ge) {A : Around} {s : Shared} {l b : Addr} {items items2 : Array Value} {e r : Nat → Bool} (hl : s.heap.IsTuple l items) (hb : s.heap.IsTuple b items2) (hu : A.units < cLine)
    (he : ∀ j (h1 : j < items.size) (h2 : j < items2.size), SeqAt.EqAt A.in1 s items[j] items2[j] (e j))
    (hr : ∀ j (h1 : j < items.size) (h2 : j < items2.size), e j = false → Ob.RcOp (cop o) A.in1 s items[j] items2[j] (r j)) :
    Ob.RcOp (cop o) A s (.ref l) (.ref b) (Ob.lexAt e r (zOf o items.size items2.size) 0 (min items.size items2.size)) := by
  rcases ho with rfl | rfl | rfl | rfl
  · exact Ob.RcOp.tuples_lt hl hb hu he hr
  · exact Ob.RcOp.tuples_le hl hb hu he hr
  · exact Ob.RcOp.tuples_gt hl hb hu he hr
  · exact Ob.RcOp.tuples_ge hl hb hu he hr
theorem rc_of {o : Cmp} (ho : o = .lt ∨ o = .le ∨ o = .gt ∨ o = .ge) (I : Inv X pins σ wd.H s) : ∀ (n : Nat) {dx dy : D} {x y : V} {u v : Value} {b : Bool} (A : Around), dx.depth ≤ n → RepV X.prog X.w X.K L wd dx x → RepV X.prog X.w X.K L wd dy y → RelV x u → RelV y v → dx.plain = true → dy.plain = true →
    D.rc o dx dy = some b → A.units + n < cLine → Ob.RcOp (cop o) A s u v b := by
  intro n
  induction n with
  | zero =>
    intro dx dy x y u v b A hd rx ry ru rv hx hy h hu
    cases dx with
    | int i =>
      cases dy with
      | int j =>
        rw [RepV] at rx ry
        subst rx ry
        obtain ⟨t, rfl⟩ := ru
        obtain ⟨t', rfl⟩ := rv
        rw [D.rc] at h
        exact rc_int ho h
      | _ => simp [D.rc] at h
    | str i =>
      cases dy with
      | str j =>
        rw [RepV] at rx ry
        subst rx ry
        obtain ⟨t, rfl⟩ := ru
        obtain ⟨t', rfl⟩ := rv
        rw [D.rc] at h
        exact rc_str ho h
      | _ => simp [D.rc] at h
    | tup _ => simp [D.depth] at hd
    | _ => simp [D.rc] at h
  | succ n ih =>
    intro dx dy x y u v b A hd rx ry ru rv hx hy h hu
    cases dx with
    | int i =>
      cases dy with
      | int j =>
        rw [RepV] at rx ry
        subst rx ry
        obtain ⟨t, rfl⟩ := ru
        obtain ⟨t', rfl⟩ := rv
        rw [D.rc] at h
        exact rc_int ho h
      | _ => simp [D.rc] at h
    | str i =>
      cases dy with
      | str j =>
        rw [RepV] at rx ry
        subst rx ry
        obtain ⟨t, rfl⟩ := ru
        obtain ⟨t', rfl⟩ := rv
        rw [D.rc] at h
        exact rc_str ho h
      | _ => simp [D.rc] at h
    | tup xs =>
      cases dy with
      | tup ys =>
        rw [D.rc] at h
        obtain ⟨_, a, rfl, hl1⟩ := tup_at rx
        obtain ⟨_, a2, rfl, hl2⟩ := tup_at ry
        obtain ⟨vs, s1, r1⟩ := hl1 wd (ExtF.refl _)
        obtain ⟨vs2, s2, r2⟩ := hl2 wd (ExtF.refl _)
        obtain rfl : u = Value.ref a := ru
        obtain rfl : v = Value.ref a2 := rv
        obtain ⟨its, q1, t1, _⟩ := I.tuple s1
        obtain ⟨its2, q2, t2, _⟩ := I.tuple s2
        simp only [D.depth] at hd
        simp only [D.plain] at hx hy
        have e1 : its.toArray.size = xs.length := by rw [List.size_toArray, ← q1.length, r1.len]
        have e2 : its2.toArray.size = ys.length := by rw [List.size_toArray, ← q2.length, r2.len]
        have := rc_tup ho (A := A) (s := s) (e := fun j => D.eqv (xs.getD j .non) (ys.getD j .non)) (r := fun j => (D.rc o (xs.getD j .non) (ys.getD j .non)).getD false) t1 t2 (by omega) (fun j h1 h2 => by
          obtain ⟨w1, k1, k2⟩ := items_at r1 q1 (j := j) (by simpa using h1)
          obtain ⟨w2, k3, k4⟩ := items_at r2 q2 (j := j) (by simpa using h2)
          have p1 := plain_get xs j hx
          have p2 := plain_get ys j hy
          obtain ⟨as, z1⟩ := Dp.reads I _ _ _ (dp_of k1 p1) k2
          obtain ⟨bs, z2⟩ := Dp.reads I _ _ _ (dp_of k3 p2) k4
          have dd := depth_get xs j
          have dp := pd_depth (xs.getD j .non)
          have := SeqAt.eqAt_reads _ _ A.in1 s _ _ as bs z1 z2 (pd_lay _ p1) (pd_lay _ p2) (by show A.units + 1 + _ < cLine; omega)
          rw [eqv_pd _ _ p1 p2] at this
          simpa using this) (fun j h1 h2 he => by
          obtain ⟨w1, k1, k2⟩ := items_at r1 q1 (j := j) (by simpa using h1)
          obtain ⟨w2, k3, k4⟩ := items_at r2 q2 (j := j) (by simpa using h2)
          obtain ⟨c, hc⟩ := rcs_some xs ys h j (by omega) (by omega) he
          rw [hc]
          have dd := depth_get xs j
          have := ih A.in1 (by omega) k1 k3 k2 k4 (plain_get xs j hx) (plain_get ys j hy) hc (by show A.units + 1 + _ < cLine; omega)
          simpa using this)
        rw [e1, e2, rcs_lex xs ys h] at this
        exact this
      | _ => simp [D.rc] at h
    | _ => simp [D.rc] at h
theorem op_ord_rep {o : Cmp} (ho : o = .lt ∨ o = .le ∨ o = .gt ∨ o = .ge) (hu : X.A.units + 64 < cLine) : OpR X (compareOp (cop o)) (RV2 (sy X L) fun x y h => D.ord o x y) := fun pins s σ H x y v u Q I rv ru ⟨h, wd, dx, dy, eH, ok, rh, rx, ry, d, e, g⟩ => by
  subst eH
  simp only [D.ord] at e
  have hc : dx.cmpable = true ∧ dy.cmpable = true := Classical.byContradiction fun z => by rw [if_neg z] at e; cases e
  rw [if_pos hc] at e
  cases e2 : D.rc o dx dy with
  | none => rw [e2] at e; cases e
  | some b =>
    rw [e2] at e
    cases e
    obtain ⟨c1, c2⟩ := cmpable_of hc.1
    obtain ⟨c3, c4⟩ := cmpable_of hc.2
    have px : RepV X.prog X.w X.K L wd dx x := by
      rcases rx with r | ⟨p, _, ⟨⟨o', ho', _⟩, _⟩⟩
      · exact r
      · cases dx <;> first | (simp [D.rc] at e2; done) | cases ho'
    have py : RepV X.prog X.w X.K L wd dy y := by
      rcases ry with r | ⟨p, _, ⟨⟨o', ho', _⟩, _⟩⟩
      · exact r
      · cases dy <;> first | (cases dx <;> simp [D.rc] at e2; done) | cases ho'
    have := rc_of ho I dx.depth X.A (Nat.le_refl _) px py rv ru c1 c3 e2 (by omega) X.prog X.w X.xe (EP X pins σ Q) ⟨.bl b, wd.H, I, rfl, good_at g ok rh (by rw [RepV])⟩
    rcases ho with rfl | rfl | rfl | rfl <;> exact this
end
end Mi
end
section
set_option Elab.async false
set_option linter.all false
set_option maxRecDepth 100000
set_option maxHeartbeats 800000
/-! Arithmetic; membership; truth; slices. -/
namespace Mi
open PySem L2

def bop : Bin → Operator
  | .add => .Add | .sub => .Sub | .mul => .Mult | .fdiv => .FloorDiv | .mod => .Mod | .shl => .LShift | .shr => .RShift | .pow => .Pow
theorem strV_app (a b : List Nat) : strV a ++ strV b = strV (a ++ b) := by
  show (⟨(strV a).cps ++ (strV b).cps⟩ : Str) = _
  simp [strV]
theorem strV_len (a : List Nat) : (strV a).length = a.length := by simp [strV, Str.length]
theorem big_eq : big = 2 ^ 64 := by decide
section
variable {X : Cx} {L : Ln} {call : CallT} {W : WX}
/-- the shapes of a binary operator -/
theorem bin_cases {o : Bin} {x y d : D} (h : binD o x y = some d) : (∃ i j, x = .int i ∧ y = .int j) ∨ (o = .add ∧ ∃ a b, x = .str a ∧ y = .str b ∧ a.length + b.length ≤ most ∧ d = .str (a ++ b)) ∨ (o = .add ∧ ∃ a b, x = .tup a ∧ y = .tup b ∧ a.length + b.length ≤ most ∧ d = .tup (a ++ b)) := by
  cases x with
  | int i =>
    cases y with
    | int j => exact .inl ⟨i, j, rfl, rfl⟩
    | _ => cases o <;> simp [binD] at h
  | str a =>
    cases y with
    | str b =>
      cases o with
      | add =>
        simp only [binD] at h
        have hc : a.length + b.length ≤ most := Classical.byContradiction fun z => by rw [if_neg z] at h; cases h
        rw [if_pos hc] at h
        cases h
        exact .inr (.inl ⟨rfl, a, b, rfl, rfl, hc, rfl⟩)
      | _ => simp [binD] at h
    | _ => cases o <;> simp [binD] at h
  | tup a =>
    cases y with
    | tup b =>
      cases o with
      | add =>
        simp only [binD] at h
        have hc : a.length + b.length ≤ most := Classical.byContradiction fun z => by rw [if_neg z] at h; cases h
        rw [if_pos hc] at h
        cases h
        exact .inr (.inr ⟨rfl, a, b, rfl, rfl, hc, rfl⟩)
      | _ => simp [binD] at h
    | _ => cases o <;> simp [binD] at h
  | _ => cases o <;> simp [binD] at h
theorem op_bin {f : Value → Value → Sem Value} {o : Bin} {C : Int → Int → Prop} {g : Int → Int → Int} (hi : OpR X f (rI C fun i j => .int (g i j))) (k : ∀ i j d, binD o (.int i) (.int j) = some d → C i j ∧ d = .int (g i j))
    (hs : o = .add → OpR X f (fun x y H Q => ∃ i j, x = .str i ∧ y = .str j ∧ i.length + j.length ≤ sizeLine ∧ Q (.str (i ++ j)) H)) (ht : o = .add → OpR X f (rCatA X.K)) : OpR X f (RV2 (sy X L) fun x y _ => binD o x y) :=
  fun pins s σ H x y v u Q I rv ru ⟨h, wd, dx, dy, eH, ok, rh, rx, ry, d, e, gd⟩ => by
    subst eH
    rcases bin_cases e with ⟨i, j, rfl, rfl⟩ | ⟨eo, a, b, rfl, rfl, hl, rfl⟩ | ⟨eo, a, b, rfl, rfl, hl, rfl⟩
    · obtain ⟨hC, rfl⟩ := k i j d e
      exact hi pins s σ wd.H x y v u Q I rv ru ⟨i, j, int_at rx, int_at ry, hC, good_at gd ok rh (by rw [RepV])⟩
    · refine hs eo pins s σ wd.H x y v u Q I rv ru ⟨strV a, strV b, str_at rx, str_at ry, by rw [strV_len, strV_len]; exact most_size hl, ?_⟩
      rw [strV_app]
      exact good_at gd ok rh (by rw [RepV])
    · obtain ⟨l1, p, ex, h1⟩ := tup_at rx.tup
      obtain ⟨l2, p2, ey, h2⟩ := tup_at ry.tup
      obtain ⟨vs, s1, r1⟩ := h1 wd (ExtF.refl _)
      obtain ⟨us, s2, r2⟩ := h2 wd (ExtF.refl _)
      refine ht eo pins s σ wd.H x y v u Q I rv ru ⟨p, p2, vs, us, ex, ey, s1, s2, by rw [← r1.len, ← r2.len]; exact most_size hl, fun z => ?_, fun z1 z2 => ?_, fun z1 z2 q hq => ?_⟩
      · subst z
        have : a = [] := by have := r1.len; simpa using this
        subst this
        exact good_at gd ok rh (ey ▸ ry.tup)
      · subst z2
        have : b = [] := by have := r2.len; simpa using this
        subst this
        rw [List.append_nil] at gd
        exact good_at gd ok rh (ex ▸ rx.tup)
      · have e2 := Ext.lay wd (o := .tup (vs ++ us)) hq
        have fr := lay_free ok hq
        refine gd (.ref q) ((wd.lay q (.tup (vs ++ us))).frz q) (e2.frz (fun z => z.ne hq)) ((ok.lay hq).frz (nt_upd (fun _ z => nomatch z)) fr.2) ((rh.lay ok hq).frz q) ?_
        simp only [Bool.false_eq_true, if_false]
        rw [RepV]
        exact ⟨q, _, rfl, .inl ⟨.inr rfl, .inl upd_same⟩, ((r1.app r2).ext e2 ok).sub (Sub.frz _ q), by rw [List.length_append]; exact hl⟩
theorem b_add : OpR X (binaryOp .Add) (RV2 (sy X L) fun x y _ => binD .add x y) := op_bin (C := fun _ _ => True) (op_add.imp fun x y H Q ⟨i, j, a, b, _, q⟩ => ⟨i, j, a, b, q⟩) (fun i j d h => by simp only [binD] at h; cases h; exact ⟨trivial, rfl⟩) (fun _ => op_add_str) fun _ => op_catA
theorem b_sub : OpR X (binaryOp .Sub) (RV2 (sy X L) fun x y _ => binD .sub x y) := op_bin (C := fun _ _ => True) (op_sub.imp fun x y H Q ⟨i, j, a, b, _, q⟩ => ⟨i, j, a, b, q⟩) (fun i j d h => by simp only [binD] at h; cases h; exact ⟨trivial, rfl⟩) (fun e => by cases e) fun e => by cases e
theorem some_if {α : Type} {c : Prop} [Decidable c] {a d : α} (h : (if c then some a else none) = some d) : c ∧ d = a := by
  by_cases q : c
  · rw [if_pos q] at h; exact ⟨q, (Option.some.inj h).symm⟩
  · rw [if_neg q] at h; cases h
theorem k_mul (i j : Int) (d : D) (h : binD .mul (.int i) (.int j) = some d) : CMul i j ∧ d = .int (i * j) := by
  simp only [binD] at h
  obtain ⟨hc, e⟩ := some_if h
  rw [big_eq] at hc
  exact ⟨hc, e⟩
theorem k_fdiv (i j : Int) (d : D) (h : binD .fdiv (.int i) (.int j) = some d) : CDivN i j ∧ d = .int (i.fdiv j) := by
  simp only [binD] at h
  obtain ⟨hc, e⟩ := some_if h
  exact ⟨hc, e⟩
theorem k_mod (i j : Int) (d : D) (h : binD .mod (.int i) (.int j) = some d) : (fun _ j => j ≠ 0) i j ∧ d = .int (i.fmod j) := by
  simp only [binD] at h
  exact some_if h
theorem k_shl (i j : Int) (d : D) (h : binD .shl (.int i) (.int j) = some d) : CPow i j ∧ d = .int (i * 2 ^ j.toNat) := by
  simp only [binD] at h
  obtain ⟨hc, e⟩ := some_if h
  exact ⟨⟨hc.1, hc.2.1, by have := hc.2.2; rwa [big_eq] at this⟩, e⟩
theorem k_shr (i j : Int) (d : D) (h : binD .shr (.int i) (.int j) = some d) : (fun _ j => 0 ≤ j) i j ∧ d = .int (i / 2 ^ j.toNat) := by
  simp only [binD] at h
  exact some_if h
theorem k_pow (i j : Int) (d : D) (h : binD .pow (.int i) (.int j) = some d) : CPow i j ∧ d = .int (i ^ j.toNat) := by
  simp only [binD] at h
  obtain ⟨hc, e⟩ := some_if h
  exact ⟨⟨hc.1, hc.2.1, by have := hc.2.2; rwa [big_eq] at this⟩, e⟩
theorem b_mul : OpR X (binaryOp .Mult) (RV2 (sy X L) fun x y _ => binD .mul x y) := op_bin op_mul k_mul (fun e => by cases e) fun e => by cases e
theorem b_fdiv : OpR X (binaryOp .FloorDiv) (RV2 (sy X L) fun x y _ => binD .fdiv x y) := op_bin op_fdivN k_fdiv (fun e => by cases e) fun e => by cases e
theorem b_mod : OpR X (binaryOp .Mod) (RV2 (sy X L) fun x y _ => binD .mod x y) := op_bin op_modN k_mod (fun e => by cases e) fun e => by cases e
theorem b_shl : OpR X (binaryOp .LShift) (RV2 (sy X L) fun x y _ => binD .shl x y) := op_bin op_shl k_shl (fun e => by cases e) fun e => by cases e
theorem b_shr : OpR X (binaryOp .RShift) (RV2 (sy X L) fun x y _ => binD .shr x y) := op_bin op_shr k_shr (fun e => by cases e) fun e => by cases e
theorem b_pow : OpR X (binaryOp .Pow) (RV2 (sy X L) fun x y _ => binD .pow x y) := op_bin op_pow k_pow (fun e => by cases e) fun e => by cases e
theorem b_all (o : Bin) : OpR X (binaryOp (bop o)) (RV2 (sy X L) fun x y _ => binD o x y) := by
  cases o
  · exact b_add
  · exact b_sub
  · exact b_mul
  · exact b_fdiv
  · exact b_mod
  · exact b_shl
  · exact b_shr
  · exact b_pow
/-- .. in place -/
theorem op_inI {f : Value → Value → Sem Value} {o : Bin} {C : Int → Int → Prop} {g : Int → Int → Int} (hi : OpR X f (rI C fun i j => .int (g i j))) (k : ∀ i j d, binD o (.int i) (.int j) = some d → C i j ∧ d = .int (g i j)) : OpR X f (RV2 (sy X L) fun x y _ => binI o x y) :=
  fun pins s σ H x y v u Q I rv ru ⟨h, wd, dx, dy, eH, ok, rh, rx, ry, d, e, gd⟩ => by
    subst eH
    cases dx with
    | int i =>
      cases dy with
      | int j =>
        obtain ⟨hC, rfl⟩ := k i j d e
        exact hi pins s σ wd.H x y v u Q I rv ru ⟨i, j, int_at rx, int_at ry, hC, good_at gd ok rh (by rw [RepV])⟩
      | _ => cases e
    | _ => cases e
theorem i_add : OpR X (inplaceOp .Add) (RV2 (sy X L) fun x y _ => binI .add x y) := op_inI (C := fun _ _ => True) (iop_add.imp fun x y H Q ⟨i, j, a, b, _, q⟩ => ⟨i, j, a, b, q⟩) fun i j d h => by simp only [binD] at h; cases h; exact ⟨trivial, rfl⟩
theorem i_sub : OpR X (inplaceOp .Sub) (RV2 (sy X L) fun x y _ => binI .sub x y) := op_inI (C := fun _ _ => True) (iop_sub.imp fun x y H Q ⟨i, j, a, b, _, q⟩ => ⟨i, j, a, b, q⟩) fun i j d h => by simp only [binD] at h; cases h; exact ⟨trivial, rfl⟩
theorem i_mul : OpR X (inplaceOp .Mult) (RV2 (sy X L) fun x y _ => binI .mul x y) := op_inI iop_mul k_mul
theorem i_shl : OpR X (inplaceOp .LShift) (RV2 (sy X L) fun x y _ => binI .shl x y) := op_inI iop_shl k_shl
theorem i_shr : OpR X (inplaceOp .RShift) (RV2 (sy X L) fun x y _ => binI .shr x y) := op_inI iop_shr k_shr
theorem i_fdiv : OpR X (inplaceOp .FloorDiv) (RV2 (sy X L) fun x y _ => binI .fdiv x y) := op_inI (C := CDivN) (g := fun i j => i.fdiv j) (opI fun i j _ _ _ _ _ hc q => PyProof.Rows.ifloordiv_int hc.1 q (.inl (PyProof.noPylong_small hc.2))) k_fdiv
theorem i_mod : OpR X (inplaceOp .Mod) (RV2 (sy X L) fun x y _ => binI .mod x y) := op_inI (C := fun _ j => j ≠ 0) (g := fun i j => i.fmod j) (opI fun i j _ _ _ _ _ hc q => PyProof.Rows.imod_int hc q) k_mod
theorem i_all (o : Bin) (ho : o ≠ .pow) : OpR X (inplaceOp (bop o)) (RV2 (sy X L) fun x y _ => binI o x y) := by
  cases o
  · exact i_add
  · exact i_sub
  · exact i_mul
  · exact i_fdiv
  · exact i_mod
  · exact i_shl
  · exact i_shr
  · exact absurd rfl ho
theorem ip_all (o : Bin) (ho : o ≠ .pow) : PIp X (bop o) (RV2 (sy X L) fun x y _ => binI o x y) := fun pins s σ H x y v u Q I rx ry q => i_all o ho pins s σ H x y v u Q I rx ry q
theorem in_all (o : Bin) (ho : o ≠ .pow) : InOp X (bop o) (RV2 (sy X L) fun x y _ => binI o x y) := fun pins s σ H x y v u Q I rx ry q => i_all o ho pins s σ H x y v u Q I rx ry q
theorem u_neg : UnR X (unaryOp .USub) (RV1 (sy X L) (unD .neg)) := fun pins s σ H x v Q I rv ⟨h, wd, dx, eH, ok, rh, rx, d, e, g⟩ => by
  subst eH
  cases dx with
  | int i =>
    cases e
    exact un_neg pins s σ wd.H x v Q I rv ⟨i, int_at rx, good_at g ok rh (by rw [RepV])⟩
  | _ => cases e
end
end Mi
end
section
set_option Elab.async false
set_option linter.all false
set_option maxRecDepth 100000
set_option maxHeartbeats 800000
/-! Truth; membership; isinstance. -/
namespace Mi
open PySem L2

section
variable {X : Cx} {L : Ln} {call : CallT} {W : WX} {wd : Wd} {pins : List (Addr × PySem.Obj)} {σ : L2.St} {s : Shared} {h : AH} {dx d : D} {x : V} {u : Value}
theorem tru_rep : TruR X (RT1 (sy X L)) := fun pins s σ H x v Q I rv ⟨h, wd, dx, b, eH, ok, rh, rx, e, q⟩ => by
  subst eH
  have seq : ∀ xs, asS dx h = some xs → b = !xs.isEmpty → wpAny (model X.prog X.w) X.A (truthy v) (TP X pins σ Q) X.xe s := fun xs e1 eb => by
    obtain ⟨a, vs, rfl, sq, rvs, _⟩ := seq_at ok rh rx e1
    have em : vs.isEmpty = xs.isEmpty := by have := rvs.len; cases vs <;> cases xs <;> simp at this ⊢
    refine tru_ok pins s σ wd.H (.ref a) v Q I rv ⟨b, ?_, q⟩
    rcases sq with ⟨sq, _⟩ | ⟨sq, _⟩
    · exact .inl ⟨vs, sq, by rw [eb, em]⟩
    · exact .inr (.inl ⟨vs, sq, by rw [eb, em]⟩)
  have dct : ∀ ks vs, asD dx h = some (ks, vs) → (ks.all D.flat = true ∧ b = !ks.isEmpty) → wpAny (model X.prog X.w) X.A (truthy v) (TP X pins σ Q) X.xe s := fun ks vs e1 ⟨fl, eb⟩ => by
    obtain ⟨a, kk, vv, rfl, da, rk, rvs, nd, okk⟩ := dct_at rh rx e1
    obtain rfl : v = Value.ref a := rv
    rcases da with ⟨kvs, r, rfl, rfl, ek⟩ | ⟨xs, r, ns, hl, ne, rfl, vl, ek, tk⟩
    · refine d_truth I r fun s' I' => ⟨wd.H, I', ?_⟩
      have l := congrArg List.length ek
      have : kvs.isEmpty = ks.isEmpty := by cases kvs <;> cases ks <;> simp at l ⊢
      rw [this, ← eb]; exact q
    · cases ks with
      | nil => exact absurd rfl ne
      | cons k ks =>
        obtain ⟨ys, e2⟩ := tk k List.mem_cons_self
        rw [List.all_cons, e2] at fl
        simp [D.flat] at fl
  cases dx with
  | non =>
    cases e
    have : x = .non := by
      rcases rx with r | ⟨p, _, ⟨⟨o, ho, _⟩, _⟩⟩
      · rw [RepV] at r; exact r
      · cases ho
    subst this
    exact tru_ok pins s σ wd.H .non v Q I rv ⟨false, rfl, q⟩
  | bl k =>
    have e : k = b := Option.some.inj e
    subst e
    have := rx.bl
    subst this
    exact tru_ok pins s σ wd.H (.bl k) v Q I rv ⟨k, rfl, q⟩
  | int i =>
    cases e
    have := int_at rx
    subst this
    exact tru_ok pins s σ wd.H (.int i) v Q I rv ⟨_, rfl, q⟩
  | str y =>
    have := str_at rx
    subst this
    simp only [truD] at e
    obtain ⟨hl, rfl⟩ := some_if e
    refine tru_ok pins s σ wd.H _ v Q I rv ⟨_, ⟨by rw [strV_len]; exact most_size hl, ?_⟩, q⟩
    rw [strV_len]
    cases y with
    | nil => rfl
    | cons a t => exact (bne_iff_ne.mpr (by rw [List.length_cons]; omega)).symm
  | tup xs => cases e; exact seq xs rfl rfl
  | lst xs => cases e; exact seq xs rfl rfl
  | dct ks vs => exact dct ks vs rfl (some_if e)
  | ref n =>
    simp only [truD] at e
    cases q1 : h[n]? with
    | none => rw [q1] at e; cases e
    | some o =>
      rw [q1] at e
      cases o with
      | lst xs => cases e; exact seq xs (by simp [asS, asL, q1]) rfl
      | dct ks vs => exact dct ks vs (by simp [asD, q1]) (some_if e)
      | ins _ _ => cases e
  | _ => cases e
theorem u_not : UnR X (unaryOp .Not) (RV1 (sy X L) (unD .not)) := fun pins s σ H x v Q I rv ⟨h, wd, dx, eH, ok, rh, rx, d, e, g⟩ => by
  subst eH
  simp only [unD] at e
  cases e1 : truD dx h with
  | none => rw [e1] at e; cases e
  | some b =>
    rw [e1] at e
    cases e
    refine PyProof.Rows.not_of (thn (tru_rep (L := L) pins s σ wd.H x v (fun b' H => b' = b ∧ H = wd.H) I rv ⟨h, wd, dx, b, rfl, ok, rh, rx, e1, rfl, rfl⟩) fun c s' ⟨H', I', ec, eH⟩ => ?_)
    subst ec eH
    exact ⟨.bl (!c), wd.H, I', rfl, good_at g ok rh (by rw [RepV])⟩
/-! ### isinstance -/
def tyV (L : Ln) : D → Value
  | .ty n => .type (tyName n)
  | .cls c => .ref (L.cad c)
  | _ => .none
def tyVV (L : Ln) : D → V
  | .ty n => .ty (tyName n)
  | .cls c => .ref (L.cad c)
  | _ => .non
def bts : List String := ["NoneType", "bool", "int", "str", "tuple", "list", "dict"]
/-- what isinstance asks of the classes -/
structure Isi (K : PySem.W.Frag) (L : Ln) : Prop where
  bt : ∀ T ∈ bts, ∀ c, c < L.g.cls.length → PySem.W.kitOne K (.type T) (.ref (L.cad c)) = some false
  tb : ∀ k, k < L.g.cls.length → ∀ n, n ≤ 5 → PySem.W.kitOne K (.ref (L.cad k)) (.type (tyName n)) = some false
  tt : ∀ k, k < L.g.cls.length → ∀ c, c < L.g.cls.length → PySem.W.kitOne K (.ref (L.cad k)) (.ref (L.cad c)) = some (L.g.sub k c)
  own : ∀ k, k < L.g.cls.length → Cls K (L.cad k) ∧ PySem.W.findIn K (.ref (L.cad k)) "__class__" = some (some (.builtin "object.__class__")) ∧ PySem.W.mroIn K (L.cad k) (.type "object") = some true
  gs : PySem.W.specialIn K (.builtin "object.__class__") "__get__" = some (some (.builtin "getset_descriptor.__get__"))
  tk : PySem.W.takesIn K (.builtin "object.__class__") = some true
def tOk (L : Ln) : D → Prop
  | .ty n => n ≤ 5
  | .cls c => c < L.g.cls.length
  | _ => False
theorem kit_bb (K : PySem.W.Frag) : ∀ T ∈ bts, ∀ n, n ≤ 5 → PySem.W.kitOne K (.type T) (.type (tyName n)) = some (decide (T = tyName n) || (decide (T = "bool") && decide (n = 0))) := by
  intro T hT n hn
  have : n = 0 ∨ n = 1 ∨ n = 2 ∨ n = 3 ∨ n = 4 ∨ n = 5 := by omega
  simp only [bts, List.mem_cons, List.not_mem_nil, or_false] at hT
  rcases hT with rfl | rfl | rfl | rfl | rfl | rfl | rfl <;> rcases this with rfl | rfl | rfl | rfl | rfl | rfl <;> rfl
/-- what the library's isinstance rules ask -/
def Kit (X : Cx) (L : Ln) (s : Shared) (u : Value) (f : D → Option Bool) : Prop := ∃ tt P, PySem.W.KitX X.K u tt P ∧ P s.heap ∧ u ≠ .builtin "__main__.__loader__#opaque" ∧ ∀ t b, tOk L t → f t = some b → PySem.W.kitOne X.K tt (tyV L t) = some b
theorem kit_built (B : Isi X.K L) {T : String} (hT : T ∈ bts) {f : D → Option Bool} (k1 : ∀ n, n ≤ 5 → f (.ty n) = some (decide (T = tyName n) || (decide (T = "bool") && decide (n = 0)))) (k2 : ∀ c, f (.cls c) = some false) :
    ∀ t b, tOk L t → f t = some b → PySem.W.kitOne X.K (.type T) (tyV L t) = some b := fun t b ht e => by
  cases t with
  | ty n => rw [k1 n ht] at e; rw [← e]; exact kit_bb X.K T hT n ht
  | cls c => rw [k2 c] at e; rw [← e]; exact B.bt T hT c ht
  | _ => exact ht.elim
theorem ty_cases {n : Nat} (h : n ≤ 5) : n = 0 ∨ n = 1 ∨ n = 2 ∨ n = 3 ∨ n = 4 ∨ n = 5 := by omega
theorem kit_rep (B : Isi X.K L) (I : Inv X pins σ wd.H s) (rh : RepH X.prog X.w X.K L wd h) (ok : WOk wd) (r : RepP X.prog X.w X.K L wd dx x) (rx : RelV x u) (hd : ∀ s, dx ≠ .set s) (hf : ∀ k, dx ≠ .fn k) (hc : ∀ k, dx ≠ .cls k) (ht : ∀ k, dx ≠ .ty k) (hr : ∀ n, dx = .ref n → h[n]? ≠ none) : Kit X L s u fun t => isinD1 dx h L.g.sub t := by
  have tup : ∀ xs, dx = .tup xs → Kit X L s u fun t => isinD1 dx h L.g.sub t := fun xs e => by
    subst e
    obtain ⟨_, a, rfl, hl⟩ := tup_at r.tup
    obtain ⟨vs, sq, _⟩ := hl wd (ExtF.refl _)
    obtain rfl : u = Value.ref a := rx
    obtain ⟨its, _, ⟨o, h1, h2, _⟩, _⟩ := I.tuple sq
    exact ⟨_, _, PySem.W.kitx_tuple, ⟨o, h1, h2⟩, (fun z => nomatch z), kit_built B (T := "tuple") (by simp [bts]) (fun n hn => by rcases ty_cases hn with rfl | rfl | rfl | rfl | rfl | rfl <;> rfl) fun c => rfl⟩
  have lst : ∀ xs, asL dx h = some xs → (∀ n, isTy dx h n = some (decide (n = 4))) → (∀ c, isIns dx h L.g.sub c = some false) → Kit X L s u fun t => isinD1 dx h L.g.sub t := fun xs e k1 k2 => by
    obtain ⟨_, a, rfl, hl⟩ := list_at ok rh r e
    obtain ⟨vs, sq, _⟩ := hl wd h (Ext.refl _) rh (same_refl _ _)
    obtain rfl : u = Value.ref a := rx
    obtain ⟨its, _, ⟨o, n, h1, h2, _⟩, _⟩ := I.list sq
    exact ⟨_, _, PySem.W.kitx_list, ⟨o, h1, h2⟩, (fun z => nomatch z), kit_built B (T := "list") (by simp [bts]) (fun n hn => by
      show isTy dx h n = _
      rw [k1 n]; rcases ty_cases hn with rfl | rfl | rfl | rfl | rfl | rfl <;> rfl) fun c => k2 c⟩
  have dct : ∀ ks vs, asD dx h = some (ks, vs) → (∀ n, isTy dx h n = some (decide (n = 5))) → (∀ c, isIns dx h L.g.sub c = some false) → Kit X L s u fun t => isinD1 dx h L.g.sub t := fun ks vs e k1 k2 => by
    obtain ⟨a, kk, vv, rfl, da, _⟩ := dct_at rh r e
    obtain rfl : u = Value.ref a := rx
    have : ∃ o, s.heap.get? a = some o ∧ o.cls = .type "dict" := by
      rcases da with ⟨kvs, r, _⟩ | ⟨xs, r, _⟩
      · obtain ⟨_, _, vs, _, o, _, _, h1, h2, _⟩ := dk_rd I.hok r
        exact ⟨o, h1, h2.1⟩
      · obtain ⟨⟨o, es, ep, h1, h2, h3, h4⟩, _, _⟩ := I.hok a _ r
        exact ⟨o, h1, h2.1⟩
    exact ⟨_, _, PySem.W.kitx_dict, this, (fun z => nomatch z), kit_built B (T := "dict") (by simp [bts]) (fun n hn => by
      show isTy dx h n = _
      rw [k1 n]; rcases ty_cases hn with rfl | rfl | rfl | rfl | rfl | rfl <;> rfl) fun c => k2 c⟩
  cases dx with
  | non =>
    have : x = .non := by
      rcases r with r | ⟨p, _, ⟨⟨o, ho, _⟩, _⟩⟩
      · rw [RepV] at r; exact r
      · cases ho
    subst this
    cases rx
    exact ⟨_, _, PySem.W.kitx_none, True.intro, (fun z => nomatch z), kit_built B (T := "NoneType") (by simp [bts]) (fun n hn => by rcases ty_cases hn with rfl | rfl | rfl | rfl | rfl | rfl <;> rfl) fun c => rfl⟩
  | bl k =>
    have := r.bl
    subst this
    cases rx
    exact ⟨_, _, PySem.W.kitx_bool, True.intro, (fun z => nomatch z), kit_built B (T := "bool") (by simp [bts]) (fun n hn => by rcases ty_cases hn with rfl | rfl | rfl | rfl | rfl | rfl <;> rfl) fun c => rfl⟩
  | int i =>
    have := int_at r
    subst this
    obtain ⟨t, rfl⟩ := rx
    exact ⟨_, _, PySem.W.kitx_int, True.intro, (fun z => nomatch z), kit_built B (T := "int") (by simp [bts]) (fun n hn => by rcases ty_cases hn with rfl | rfl | rfl | rfl | rfl | rfl <;> rfl) fun c => rfl⟩
  | str y =>
    have := str_at r
    subst this
    obtain ⟨t, rfl⟩ := rx
    exact ⟨_, _, PySem.W.kitx_str, True.intro, (fun z => nomatch z), kit_built B (T := "str") (by simp [bts]) (fun n hn => by rcases ty_cases hn with rfl | rfl | rfl | rfl | rfl | rfl <;> rfl) fun c => rfl⟩
  | tup xs => exact tup xs rfl
  | lst xs => exact lst xs rfl (fun n => rfl) fun c => rfl
  | dct ks vs => exact dct ks vs rfl (fun n => rfl) fun c => rfl
  | ref n =>
    cases q1 : h[n]? with
    | none => exact absurd q1 (hr n rfl)
    | some o =>
      cases o with
      | lst xs => exact lst xs (by simp [asL, q1]) (fun n => by simp [isTy, q1]) fun c => by simp [isIns, q1]
      | dct ks vs => exact dct ks vs (by simp [asD, q1]) (fun n => by simp [isTy, q1]) fun c => by simp [isIns, q1]
      | ins k fs =>
        obtain ⟨hn, rfl⟩ := r.ref
        obtain ⟨dxa, fv, e1, _, _, hk, _⟩ := rh.2 n _ q1
        obtain rfl : u = Value.ref _ := rx
        obtain ⟨cl, ha, hm⟩ := B.own k hk
        obtain ⟨mA, O, _⟩ := ins_get I.hok e1
        obtain ⟨od, J, _⟩ := O.look
        refine ⟨_, _, PySem.W.kitx_own (cl.get _) cl.hd ha B.gs B.tk hm, J, (fun z => nomatch z), fun t b ht' e => ?_⟩
        cases t with
        | ty m =>
          have e : isTy (.ref n) h m = some b := e
          simp only [isTy, q1] at e
          rw [← e]
          exact B.tb k hk m ht'
        | cls c =>
          have e : isIns (.ref n) h L.g.sub c = some b := e
          simp only [isIns, q1] at e
          rw [← e]
          exact B.tt k hk c ht'
        | _ => exact ht'.elim
  | set s => exact absurd rfl (hd s)
  | fn k => exact absurd rfl (hf k)
  | cls k => exact absurd rfl (hc k)
  | ty k => exact absurd rfl (ht k)
end
end Mi
end
section
set_option Elab.async false
set_option linter.all false
set_option maxRecDepth 100000
set_option maxHeartbeats 800000
/-! isinstance, built-in functions, slices. -/
namespace Mi
open PySem L2

section
variable {X : Cx} {L : Ln} {call : CallT} {W : WX}
theorem _root_.L2.CallR.imp {f : Value} {r r' : List V → Hp → VK → Prop} (h : CallR X f r) (k : ∀ xs H Q, r' xs H Q → r xs H Q) : CallR X f r' := fun pins s σ H xs us Q I rv q => h pins s σ H xs us Q I rv (k _ _ _ q)
/-! ### isinstance -/
theorem isin_ne {dx : D} {h : AH} {sub : Nat → Nat → Bool} {ts : List D} {b : Bool} (ne : ts ≠ []) (e : isinD dx h sub ts = some b) : (∀ s, dx ≠ .set s) ∧ (∀ k, dx ≠ .fn k) ∧ (∀ k, dx ≠ .cls k) ∧ (∀ k, dx ≠ .ty k) ∧ ∀ n, dx = .ref n → h[n]? ≠ none := by
  cases ts with
  | nil => exact absurd rfl ne
  | cons t ts =>
    rw [isinD] at e
    refine ⟨fun s z => ?_, fun k z => ?_, fun k z => ?_, fun k z => ?_, fun n z zn => ?_⟩
    · subst z; cases t <;> simp [isinD1, isTy, isIns] at e
    · subst z; cases t <;> simp [isinD1, isTy, isIns] at e
    · subst z; cases t <;> simp [isinD1, isTy, isIns] at e
    · subst z; cases t <;> simp [isinD1, isTy, isIns] at e
    · subst z; cases t <;> simp [isinD1, isTy, isIns, zn] at e
theorem kit_any {u : Value} {s : Shared} {dx : D} {h : AH} {tt : Value} (k : ∀ t b, tOk L t → isinD1 dx h L.g.sub t = some b → PySem.W.kitOne X.K tt (tyV L t) = some b) : ∀ (ts : List D) {b : Bool}, (∀ t ∈ ts, tOk L t) → isinD dx h L.g.sub ts = some b → PySem.W.kitAny X.K tt (ts.map (tyV L)) = some b
  | [], b, _, e => by rw [isinD] at e; exact e
  | t :: ts, b, ok, e => by
    rw [isinD] at e
    cases e1 : isinD1 dx h L.g.sub t with
    | none => rw [e1] at e; cases e
    | some c =>
      rw [e1] at e
      have z := k t c (ok t List.mem_cons_self) e1
      rw [List.map_cons, PySem.W.kitAny, z]
      cases c with
      | true => exact e
      | false => exact kit_any (u := u) (s := s) k ts (fun t ht => ok t (List.mem_cons_of_mem _ ht)) e
/-- by values -/
def RIsi (S : Sy) (ts : List D) (c : V) : List V → Hp → VK → Prop := fun xs H Q => ∃ h wd dx x b, xs = [x, c] ∧ wd.H = H ∧ WOk wd ∧ RepH S.P S.w S.K S.L wd h ∧ RepP S.P S.w S.K S.L wd dx x ∧ isinD dx h S.L.g.sub ts = some b ∧ Q (.bl b) H
theorem isi_one (B : Isi X.K L) {t : D} (ht : tOk L t) : CallR X (.builtin "isinstance") (RIsi (sy X L) [t] (tyVV L t)) := fun pins s σ H xs us Q I rv ⟨h, wd, dx, x, b, ex, eH, ok, rh, rx, e, q⟩ => by
  subst ex eH
  obtain ⟨u1, u2, rfl, r1, r2⟩ := Vals.two rv
  obtain ⟨a1, a2, a3, a4, a5⟩ := isin_ne (by simp) e
  obtain ⟨tt, P, Z, p, hx, kk⟩ := kit_rep B I rh ok rx r1 a1 a2 a3 a4 a5
  have e1 : isinD1 dx h L.g.sub t = some b := by
    rw [isinD] at e
    cases e1 : isinD1 dx h L.g.sub t with
    | none => rw [e1] at e; cases e
    | some c => rw [e1] at e; cases c <;> exact e
  have e2 : u2 = tyV L t := by
    cases t with
    | ty n => exact r2
    | cls c => exact r2
    | _ => exact ht.elim
  subst e2
  exact PySem.W.kia_one Z I.kIn p (kk t b ht e1) hx fun tk => ⟨.bl b, wd.H, I.tok tk, rfl, q⟩
theorem isi_tup (B : Isi X.K L) {ts : List D} (ne : ts ≠ []) (ht : ∀ t ∈ ts, tOk L t) : CallR X (.builtin "isinstance") (fun xs H Q => ∃ tp, H tp = some (.tup (ts.map (tyVV L))) ∧ RIsi (sy X L) ts (.ref tp) xs H Q) := fun pins s σ H xs us Q I rv ⟨tp, hT, h, wd, dx, x, b, ex, eH, ok, rh, rx, e, q⟩ => by
  subst ex eH
  obtain ⟨u1, u2, rfl, r1, r2⟩ := Vals.two rv
  cases (show u2 = Value.ref tp from r2)
  obtain ⟨a1, a2, a3, a4, a5⟩ := isin_ne ne e
  obtain ⟨tt, P, Z, p, hx, kk⟩ := kit_rep B I rh ok rx r1 a1 a2 a3 a4 a5
  obtain ⟨_, its, rv, o, h1, h2, n, h3⟩ := (show ObjOk X.prog X.w wd.H s.heap tp (.tup (ts.map (tyVV L))) from I.hok tp _ hT)
  have e3 : its = ts.map (tyV L) := by
    have : ∀ (ts : List D) (its : List Value), (∀ t ∈ ts, tOk L t) → Vals (ts.map (tyVV L)) its → its = ts.map (tyV L) := by
      intro ts
      induction ts with
      | nil => intro its _ r; cases r; rfl
      | cons t ts ih =>
        intro its ht r
        cases r with
        | cons r1 r2 =>
          rw [ih _ (fun t h => ht t (List.mem_cons_of_mem _ h)) r2, List.map_cons]
          have h0 := ht t List.mem_cons_self
          cases t with
          | ty n => rw [show _ = Value.type (tyName n) from r1]; rfl
          | cls c => rw [show _ = Value.ref (L.cad c) from r1]; rfl
          | _ => exact h0.elim
    exact this ts its ht rv
  subst e3
  obtain ⟨oc, od, dt, sl⟩ := o
  simp only at h2 h3
  subst h2 h3
  exact PySem.W.kia_tup Z I.kIn p h1 (kit_any (u := u1) (s := s) kk ts ht e) hx fun tk => ⟨.bl b, wd.H, I.tok tk, rfl, q⟩
theorem rd_isi1 {e t : Expr} {e' : E} {t' : D} {p pos : Pos} (B : Isi X.K L) (ht : tOk L t') (hg : Gl X "isinstance") (hm : X.mg "isinstance" = none) (he : PE X e (RdE (sy X L) call W e')) (hc : PE X t (tC (tyVV L t')))
    (hs1 : starEach [t] X.env = (false, eval t X.env) :: starEach [] X.env) (hs : starEach [e, t] X.env = (false, eval e X.env) :: starEach [t] X.env) (hpl : (backTo pos (starEach [t] X.env)).any (·.1) = false) :
    PE X (.Call (.Name "isinstance" p) [e, t] [] pos) (RdE (sy X L) call W (.isi e' [t'])) :=
  (pe_callB (p := p) (pos := pos) (isi_one (L := L) B ht) hg hm (by decide +kernel) (pa_cons he (pa_cons hc pa_nil hs1) hs) (by decide) (by decide) hs hpl).impM fun σ H Q ⟨en, h, wd, e1, st, q⟩ => by
    subst e1
    rw [evE] at q
    refine rdE_step st q.bind fun d h1 v wd1 g x1 st1 r _ => ?_
    obtain ⟨y, hy, g⟩ := g.ofO
    obtain ⟨b, hb, rfl⟩ := Option.map_eq_some_iff.mp hy
    exact ⟨h1, wd1, d, v, b, rfl, rfl, st1.ok, st1.rh, r, hb, g (.bl b) wd1 x1 st1.ok st1.rh (by simp [isOwn]; rw [RepV])⟩
theorem rd_isiT {e : Expr} {tes : List Expr} {e' : E} {ts : List D} {k : Nat} {p tp pos : Pos} (B : Isi X.K L) (ne : ts ≠ []) (hl : ts.length ≤ 1000) (ht : ∀ t ∈ ts, tOk L t) (hg : Gl X "isinstance") (hm : X.mg "isinstance" = none) (he : PE X e (RdE (sy X L) call W e')) (hc : PA X tes (fun _ H Q => Q (ts.map (tyVV L)) H))
    (hs1 : starEach [Expr.Tuple tes k tp] X.env = (false, eval (Expr.Tuple tes k tp) X.env) :: starEach [] X.env) (hs : starEach [e, Expr.Tuple tes k tp] X.env = (false, eval e X.env) :: starEach [Expr.Tuple tes k tp] X.env) (hpl : (backTo pos (starEach [Expr.Tuple tes k tp] X.env)).any (·.1) = false) :
    PE X (.Call (.Name "isinstance" p) [e, .Tuple tes k tp] [] pos) (RdE (sy X L) call W (.isi e' ts)) :=
  (pe_callB (p := p) (pos := pos) (isi_tup (L := L) B ne ht) hg hm (by decide +kernel) (pa_cons he (pa_cons (pe_tup hc) pa_nil hs1) hs) (by decide) (by decide) hs hpl).impM fun σ H Q ⟨en, h, wd, e1, st, q⟩ => by
    subst e1
    rw [evE] at q
    refine rdE_step st q.bind fun d h1 v wd1 g x1 st1 r _ => ?_
    obtain ⟨y, hy, g⟩ := g.ofO
    obtain ⟨b, hb, rfl⟩ := Option.map_eq_some_iff.mp hy
    refine ⟨by rw [List.length_map, sizeLine_eq]; omega, fun a ha => ?_⟩
    have x2 := Ext.lay wd1 (o := .tup (ts.map (tyVV L))) ha
    exact ⟨a, upd_same, h1, wd1.lay a (.tup (ts.map (tyVV L))), d, v, b, rfl, rfl, st1.ok.lay ha, st1.rh.lay st1.ok ha, r.ext x2 st1.ok, hb, g (.bl b) _ (x1.trans x2) (st1.ok.lay ha) (st1.rh.lay st1.ok ha) (by simp [isOwn]; rw [RepV])⟩
end
end Mi
end
section
set_option Elab.async false
set_option linter.all false
set_option maxRecDepth 100000
set_option maxHeartbeats 800000
/-! Built-in functions by value. -/
namespace Mi
open PySem L2

section
variable {X : Cx} {L : Ln} {call : CallT} {W : WX}
abbrev RB (S : Sy) (b : BI) : List V → Hp → VK → Prop := RVL S (fun ds h => biD S.L.g b ds h)
theorem paired1 {R : D → V → Prop} {d : D} {vs : List V} (h : Paired R [d] vs) : ∃ v, vs = [v] ∧ R d v := by
  cases h with
  | cons a b => cases b; exact ⟨_, rfl, a⟩
theorem paired2 {R : D → V → Prop} {d e : D} {vs : List V} (h : Paired R [d, e] vs) : ∃ v u, vs = [v, u] ∧ R d v ∧ R e u := by
  cases h with
  | cons a b =>
    cases b with
    | cons c d => cases d; exact ⟨_, _, rfl, a, c⟩
/-- a call of a built-in function -/
theorem rd_biB {b : BI} {id : String} {x : Str} {e : Expr} {es : List Expr} {es' : Es} {p pos : Pos} (hc : CallR X (.builtin id) (RB (sy X L) b)) (hg : Gl X x) (hm : X.mg x = none) (hv : bootBuiltins x = some (.builtin id)) (ha : PA X (e :: es) (RdP (sy X L) call W es')) (hn : x ≠ "__name__") (hdb : (x == ("__debug__" : Str)) = false)
    (he : starEach (e :: es) X.env = (false, eval e X.env) :: starEach es X.env) (hpl : (backTo pos (starEach es X.env)).any (·.1) = false) : PE X (.Call (.Name x p) (e :: es) [] pos) (RdE (sy X L) call W (.bi b es')) :=
  (pe_callB (p := p) (pos := pos) hc hg hm hv ha hn hdb he hpl).impM fun σ H Q ⟨en, h, wd, e1, st, q⟩ => by
    subst e1
    rw [evE] at q
    refine ⟨en, h, wd, rfl, st, q.bind.mono fun ds h1 g vs wd1 x1 ok1 rh1 _ r => ?_⟩
    obtain ⟨y, hy, g⟩ := g.ofO
    exact ⟨h1, wd1, ds, rfl, ok1, rh1, r, y, hy, fun v wd2 x2 ok2 rh2 r2 => g v wd2 (x1.trans x2) ok2 rh2 (by simpa [isOwn] using r2)⟩
/-- a call of a built-in type -/
theorem rd_biT {b : BI} {T : String} {x : Str} {e : Expr} {es : List Expr} {es' : Es} {p pos : Pos} (hc : CallR X (.type T) (RB (sy X L) b)) (hg : Gl X x) (hm : X.mg x = none) (hv : bootBuiltins x = some (.type T)) (ha : PA X (e :: es) (RdP (sy X L) call W es')) (hn : x ≠ "__name__") (hdb : (x == ("__debug__" : Str)) = false)
    (he : starEach (e :: es) X.env = (false, eval e X.env) :: starEach es X.env) (hpl : (backTo pos (starEach es X.env)).any (·.1) = false) : PE X (.Call (.Name x p) (e :: es) [] pos) (RdE (sy X L) call W (.bi b es')) :=
  (pe_callTy (p := p) (pos := pos) hc hg hm hv ha hn hdb he hpl).impM fun σ H Q ⟨en, h, wd, e1, st, q⟩ => by
    subst e1
    rw [evE] at q
    refine ⟨en, h, wd, rfl, st, q.bind.mono fun ds h1 g vs wd1 x1 ok1 rh1 _ r => ?_⟩
    obtain ⟨y, hy, g⟩ := g.ofO
    exact ⟨h1, wd1, ds, rfl, ok1, rh1, r, y, hy, fun v wd2 x2 ok2 rh2 r2 => g v wd2 (x1.trans x2) ok2 rh2 (by simpa [isOwn] using r2)⟩
theorem bi_len : CallR X (.builtin "len") (RB (sy X L) .len) := fun pins s σ H xs us Q I rv ⟨h, wd, ds, eH, ok, rh, r, d, e, g⟩ => by
  subst eH
  match ds, r, e with
  | [dx], r, e =>
    obtain ⟨x, rfl, rx⟩ := paired1 r
    have e : (lenD dx h).map (fun n => D.int n) = some d := e
    cases e1 : lenD dx h with
    | none => rw [e1] at e; cases e
    | some n =>
      rw [e1] at e
      cases e
      have fin := fun (hn : LenV X.K x wd.H n) => call_len pins s σ wd.H [x] us Q I rv ⟨x, n, rfl, hn, good_at g ok rh (by rw [RepV])⟩
      unfold lenD at e1
      cases e2 : asS dx h with
      | some ys =>
        rw [e2] at e1
        cases e1
        obtain ⟨a, vs, rfl, sq, rvs, _⟩ := seq_at ok rh rx e2
        refine fin ?_
        rcases sq with ⟨sq, _⟩ | ⟨sq, _⟩
        · exact .inl ⟨vs, sq, rvs.len⟩
        · exact .inr ⟨vs, sq, rvs.len⟩
      | none =>
        rw [e2] at e1
        dsimp only at e1
        cases e3 : asD dx h with
        | some q =>
          obtain ⟨ks, vs⟩ := q
          rw [e3] at e1
          obtain ⟨fl, rfl⟩ := some_if e1
          obtain ⟨a, kk, vv, rfl, da, rk, rvs, nd, okk⟩ := dct_at rh rx e3
          obtain ⟨u, rfl, ru⟩ := Vals.one rv
          obtain rfl : u = Value.ref a := ru
          rcases da with ⟨kvs, r, rfl, rfl, ek⟩ | ⟨xs, r, ns, hl, ne, rfl, vl, ek, tk⟩
          · refine d_len I r fun t s' I' => ⟨.int kvs.length, wd.H, I', ⟨t, rfl⟩, ?_⟩
            have l := congrArg List.length ek
            simp at l
            rw [← l]
            exact good_at g ok rh (by rw [RepV])
          · cases ks with
            | nil => exact absurd rfl ne
            | cons k ks =>
              obtain ⟨ys, e2⟩ := tk k List.mem_cons_self
              rw [List.all_cons, e2] at fl
              simp [D.flat] at fl
        | none =>
          rw [e3] at e1
          dsimp only at e1
          cases dx with
          | str y =>
            obtain ⟨hl, rfl⟩ := some_if e1
            have := str_at rx
            subst this
            exact fin ⟨by rw [strV_len]; exact most_size hl, by rw [strV_len]⟩
          | _ => cases e1
  | [], _, e => cases e
  | _ :: _ :: _, _, e => cases e
theorem bi_tuple : CallR X (.type "tuple") (RB (sy X L) .tuple) := call_tuple_of.imp fun xs H Q ⟨h, wd, ds, eH, ok, rh, r, d, e, g⟩ => by
  subst eH
  match ds, r, e with
  | [dx], r, e =>
    obtain ⟨x, rfl, rx⟩ := paired1 r
    have e : (asS dx h).map D.tup = some d := e
    cases e2 : asS dx h with
    | none => rw [e2] at e; cases e
    | some ys =>
      rw [e2] at e
      cases e
      obtain ⟨a, vs, rfl, sq, rvs, hl⟩ := seq_at ok rh rx e2
      refine ⟨a, vs, rfl, ?_⟩
      rcases sq with ⟨sq, _⟩ | ⟨sq, e⟩
      · refine .inl ⟨sq, fun q hq => ?_⟩
        have e2 := Ext.lay wd (o := .tup vs) hq
        have fr := lay_free ok hq
        refine g (.ref q) ((wd.lay q (.tup vs)).frz q) (e2.frz (fun z => z.ne hq)) ((ok.lay hq).frz (nt_upd (fun _ z => nomatch z)) fr.2) ((rh.lay ok hq).frz q) ?_
        simp only [Bool.false_eq_true, if_false]
        rw [RepV]
        exact ⟨q, _, rfl, .inl ⟨.inr rfl, .inl upd_same⟩, (rvs.ext e2 ok).sub (Sub.frz _ q), hl⟩
      · subst e
        exact .inr ⟨sq, good_at g ok rh rx.tup⟩
  | [], _, e => cases e
  | _ :: _ :: _, _, e => cases e
theorem allB_map : ∀ {xs : List D} {bs : List Bool}, allB xs = some bs → xs = bs.map .bl
  | [], bs, h => by cases h; rfl
  | x :: xs, bs, h => by
    cases x with
    | bl b =>
      simp only [allB] at h
      obtain ⟨r, hr, rfl⟩ := Option.map_eq_some_iff.mp h
      rw [List.map_cons, ← allB_map hr]
    | _ => cases h
theorem allI_map : ∀ {xs : List D} {bs : List Int}, allI xs = some bs → xs = bs.map .int
  | [], bs, h => by cases h; rfl
  | x :: xs, bs, h => by
    cases x with
    | int b =>
      simp only [allI] at h
      obtain ⟨r, hr, rfl⟩ := Option.map_eq_some_iff.mp h
      rw [List.map_cons, ← allI_map hr]
    | _ => cases h
theorem vs_bl {P w K} {wd : Wd} : ∀ {bs : List Bool} {vs : List V}, RepVs P w K L wd (bs.map .bl) vs → vs = bs.map V.bl
  | [], vs, h => h.nil_inv
  | b :: bs, vs, h => by
    obtain ⟨v, r, rfl, r1, r2⟩ := h.inv
    rw [RepV] at r1
    rw [r1, vs_bl r2]; rfl
theorem vs_int {P w K} {wd : Wd} : ∀ {bs : List Int} {vs : List V}, RepVs P w K L wd (bs.map .int) vs → vs = bs.map V.int
  | [], vs, h => h.nil_inv
  | b :: bs, vs, h => by
    obtain ⟨v, r, rfl, r1, r2⟩ := h.inv
    rw [RepV] at r1
    rw [r1, vs_int r2]; rfl
theorem asL_sq {wd : Wd} {h : AH} {dx : D} {x : V} {xs : List D} (ok : WOk wd) (rh : RepH X.prog X.w X.K L wd h) (rx : RepP X.prog X.w X.K L wd dx x) (e : asL dx h = some xs) : ∃ a vs, x = .ref a ∧ SqL X.K wd.H a vs ∧ RepVs X.prog X.w X.K L wd xs vs ∧ xs.length ≤ most := by
  obtain ⟨ln, a, ex, hl⟩ := list_at ok rh rx e
  obtain ⟨vs, h1, h2⟩ := hl wd h (Ext.refl _) rh (same_refl _ _)
  exact ⟨a, vs, ex, h1, h2, ln⟩
theorem bi_all (hc : X.calm = true) : CallR X (.builtin "all") (RB (sy X L) .all) := (cr_all hc).imp fun xs H Q ⟨h, wd, ds, eH, ok, rh, r, d, e, g⟩ => by
  subst eH
  match ds, r, e with
  | [dx], r, e =>
    obtain ⟨x, rfl, rx⟩ := paired1 r
    obtain ⟨ys, e1, e⟩ := Option.bind_eq_some_iff.mp (show (asL dx h).bind (fun xs => (allB xs).map fun bs => D.bl (bs.all id)) = some d from e)
    obtain ⟨bs, e2, rfl⟩ := Option.map_eq_some_iff.mp e
    obtain ⟨a, vs, rfl, sq, rvs, _⟩ := asL_sq ok rh rx e1
    rw [allB_map e2] at rvs
    rw [vs_bl rvs] at sq
    exact ⟨a, bs, rfl, sq, good_at g ok rh (by rw [RepV])⟩
  | [], _, e => cases e
  | _ :: _ :: _, _, e => cases e
theorem bi_any (hc : X.calm = true) : CallR X (.builtin "any") (RB (sy X L) .any) := (cr_any hc).imp fun xs H Q ⟨h, wd, ds, eH, ok, rh, r, d, e, g⟩ => by
  subst eH
  match ds, r, e with
  | [dx], r, e =>
    obtain ⟨x, rfl, rx⟩ := paired1 r
    obtain ⟨ys, e1, e⟩ := Option.bind_eq_some_iff.mp (show (asL dx h).bind (fun xs => (allB xs).map fun bs => D.bl (bs.any id)) = some d from e)
    obtain ⟨bs, e2, rfl⟩ := Option.map_eq_some_iff.mp e
    obtain ⟨a, vs, rfl, sq, rvs, _⟩ := asL_sq ok rh rx e1
    rw [allB_map e2] at rvs
    rw [vs_bl rvs] at sq
    exact ⟨a, bs, rfl, sq, good_at g ok rh (by rw [RepV])⟩
  | [], _, e => cases e
  | _ :: _ :: _, _, e => cases e
theorem bi_sum (hc : X.calm = true) : CallR X (.builtin "sum") (RB (sy X L) .sum) := (cr_sum hc).imp fun xs H Q ⟨h, wd, ds, eH, ok, rh, r, d, e, g⟩ => by
  subst eH
  match ds, r, e with
  | [dx], r, e =>
    obtain ⟨x, rfl, rx⟩ := paired1 r
    obtain ⟨ys, e1, e⟩ := Option.bind_eq_some_iff.mp (show (asL dx h).bind (fun xs => (allI xs).map fun ns => D.int ns.sum) = some d from e)
    obtain ⟨bs, e2, rfl⟩ := Option.map_eq_some_iff.mp e
    obtain ⟨a, vs, rfl, sq, rvs, _⟩ := asL_sq ok rh rx e1
    rw [allI_map e2] at rvs
    rw [vs_int rvs] at sq
    exact ⟨a, bs, rfl, sq, good_at g ok rh (by rw [RepV])⟩
  | [], _, e => cases e
  | _ :: _ :: _, _, e => cases e
theorem foldl_max : ∀ (l : List Int) (a : Int), (l.foldl max a = a ∨ l.foldl max a ∈ l) ∧ a ≤ l.foldl max a ∧ ∀ y ∈ l, y ≤ l.foldl max a
  | [], a => ⟨.inl rfl, Int.le_refl _, fun _ h => nomatch h⟩
  | b :: l, a => by
    obtain ⟨h1, h2, h3⟩ := foldl_max l (max a b)
    rw [List.foldl_cons]
    refine ⟨?_, Int.le_trans (Int.le_max_left a b) h2, fun y hy => ?_⟩
    · rcases h1 with h1 | h1
      · rcases Int.le_total a b with q | q
        · right; rw [h1, Int.max_eq_right q]; exact List.mem_cons_self
        · left; rw [h1, Int.max_eq_left q]
      · right; exact List.mem_cons_of_mem _ h1
    · rcases List.mem_cons.mp hy with rfl | hy
      · exact Int.le_trans (Int.le_max_right a y) h2
      · exact h3 y hy
theorem foldl_min : ∀ (l : List Int) (a : Int), (l.foldl min a = a ∨ l.foldl min a ∈ l) ∧ l.foldl min a ≤ a ∧ ∀ y ∈ l, l.foldl min a ≤ y
  | [], a => ⟨.inl rfl, Int.le_refl _, fun _ h => nomatch h⟩
  | b :: l, a => by
    obtain ⟨h1, h2, h3⟩ := foldl_min l (min a b)
    rw [List.foldl_cons]
    refine ⟨?_, Int.le_trans h2 (Int.min_le_left a b), fun y hy => ?_⟩
    · rcases h1 with h1 | h1
      · rcases Int.le_total a b with q | q
        · left; rw [h1, Int.min_eq_left q]
        · right; rw [h1, Int.min_eq_right q]; exact List.mem_cons_self
      · right; exact List.mem_cons_of_mem _ h1
    · rcases List.mem_cons.mp hy with rfl | hy
      · exact Int.le_trans h2 (Int.min_le_right a y)
      · exact h3 y hy
theorem bi_max (hc : X.calm = true) : CallR X (.builtin "max") (RB (sy X L) .max) := fun pins s σ H xs us Q I rv ⟨h, wd, ds, eH, ok, rh, r, d, e, g⟩ => by
  subst eH
  match ds, r, e with
  | [dx], r, e =>
    obtain ⟨x, rfl, rx⟩ := paired1 r
    simp only [biD] at e
    obtain ⟨ys, e1, e⟩ := Option.bind_eq_some_iff.mp e
    obtain ⟨bs, e2, e⟩ := Option.bind_eq_some_iff.mp e
    obtain ⟨a, vs, rfl, sq, rvs, _⟩ := asL_sq ok rh rx e1
    rw [allI_map e2] at rvs
    rw [vs_int rvs] at sq
    cases bs with
    | nil => cases e
    | cons b bs =>
      cases e
      refine cr_max hc pins s σ wd.H _ us Q I rv ⟨a, b :: bs, rfl, sq, by simp, fun m hm hy => ?_⟩
      have : m = bs.foldl max b := by
        obtain ⟨h1, h2, h3⟩ := foldl_max bs b
        refine Int.le_antisymm ?_ (hy _ (by rcases h1 with h1 | h1; rw [h1]; exact List.mem_cons_self; exact List.mem_cons_of_mem _ h1))
        rcases List.mem_cons.mp hm with rfl | hm
        · exact h2
        · exact h3 m hm
      subst this
      exact good_at g ok rh (by rw [RepV])
  | [.int i, .int j], r, e =>
    obtain ⟨x, y, rfl, rx, ry⟩ := paired2 r
    have e : some (D.int (if j > i then j else i)) = some d := by simpa [biD] using e
    cases e
    have := int_at rx
    subst this
    have := int_at ry
    subst this
    exact call_max2 hc pins s σ wd.H _ us Q I rv ⟨i, j, rfl, good_at g ok rh (by rw [RepV])⟩
  | [], _, e => cases e
  | _ :: _ :: _ :: _, _, e => simp [biD] at e
theorem bi_min (hc : X.calm = true) : CallR X (.builtin "min") (RB (sy X L) .min) := fun pins s σ H xs us Q I rv ⟨h, wd, ds, eH, ok, rh, r, d, e, g⟩ => by
  subst eH
  match ds, r, e with
  | [dx], r, e =>
    obtain ⟨x, rfl, rx⟩ := paired1 r
    simp only [biD] at e
    obtain ⟨ys, e1, e⟩ := Option.bind_eq_some_iff.mp e
    obtain ⟨bs, e2, e⟩ := Option.bind_eq_some_iff.mp e
    obtain ⟨a, vs, rfl, sq, rvs, _⟩ := asL_sq ok rh rx e1
    rw [allI_map e2] at rvs
    rw [vs_int rvs] at sq
    cases bs with
    | nil => cases e
    | cons b bs =>
      cases e
      refine cr_min hc pins s σ wd.H _ us Q I rv ⟨a, b :: bs, rfl, sq, by simp, fun m hm hy => ?_⟩
      have : m = bs.foldl min b := by
        obtain ⟨h1, h2, h3⟩ := foldl_min bs b
        refine Int.le_antisymm (hy _ (by rcases h1 with h1 | h1; rw [h1]; exact List.mem_cons_self; exact List.mem_cons_of_mem _ h1)) ?_
        rcases List.mem_cons.mp hm with rfl | hm
        · exact h2
        · exact h3 m hm
      subst this
      exact good_at g ok rh (by rw [RepV])
  | [.int i, .int j], r, e =>
    obtain ⟨x, y, rfl, rx, ry⟩ := paired2 r
    have e : some (D.int (if j < i then j else i)) = some d := by simpa [biD] using e
    cases e
    have := int_at rx
    subst this
    have := int_at ry
    subst this
    exact call_min2 hc pins s σ wd.H _ us Q I rv ⟨i, j, rfl, good_at g ok rh (by rw [RepV])⟩
  | [], _, e => cases e
  | _ :: _ :: _ :: _, _, e => simp [biD] at e
theorem bi_int : CallR X (.type "int") (RB (sy X L) .int) := call_int1.imp fun xs H Q ⟨h, wd, ds, eH, ok, rh, r, d, e, g⟩ => by
  subst eH
  match ds, r, e with
  | [.int i], r, e =>
    obtain ⟨x, rfl, rx⟩ := paired1 r
    cases e
    have := int_at rx
    subst this
    exact .inl ⟨i, rfl, good_at g ok rh (by rw [RepV])⟩
  | [.bl i], r, e =>
    obtain ⟨x, rfl, rx⟩ := paired1 r
    cases e
    have := rx.bl
    subst this
    exact .inr ⟨i, rfl, good_at g ok rh (by rw [RepV])⟩
  | [], _, e => cases e
  | _ :: _ :: _, _, e => simp [biD] at e
theorem bi_abs : CallR X (.builtin "abs") (RB (sy X L) .abs) := call_abs.imp fun xs H Q ⟨h, wd, ds, eH, ok, rh, r, d, e, g⟩ => by
  subst eH
  match ds, r, e with
  | [.int i], r, e =>
    obtain ⟨x, rfl, rx⟩ := paired1 r
    cases e
    have := int_at rx
    subst this
    exact ⟨i, rfl, good_at g ok rh (by rw [RepV])⟩
  | [], _, e => cases e
  | _ :: _ :: _, _, e => simp [biD] at e
end
end Mi
end
section
set_option Elab.async false
set_option linter.all false
set_option maxRecDepth 100000
set_option maxHeartbeats 800000
/-! repr; slices; fresh lists. -/
namespace Mi
open PySem L2

/-! ### repr -/
mutual
theorem shw_plain : ∀ d : D, d.shw0 = true → d.plain = true
  | .tup xs, h => by simp only [D.shw0] at h; simp only [D.plain]; exact shws_plain xs h
  | .lst xs, h => by simp only [D.shw0] at h; simp only [D.plain]; exact shws_plain xs h
  | .non, _ => by simp [D.plain]
  | .bl _, _ => by simp [D.plain]
  | .int _, _ => by simp [D.plain]
  | .str _, h => by simpa [D.plain, D.shw0] using h
  | .dct _ _, h => by simp [D.shw0] at h
  | .set _, h => by simp [D.shw0] at h
  | .ref _, h => by simp [D.shw0] at h
  | .fn _, h => by simp [D.shw0] at h
  | .cls _, h => by simp [D.shw0] at h
  | .ty _, h => by simp [D.shw0] at h
theorem shws_plain : ∀ ds : List D, D.shws0 ds = true → D.plains ds = true
  | [], _ => rfl
  | d :: ds, h => by simp only [D.shws0, Bool.and_eq_true] at h; simp only [D.plains, shw_plain d h.1, shws_plain ds h.2, Bool.and_self]
end
mutual
theorem shw_able : ∀ d : D, d.shw0 = true → (pd d).showable = true
  | .tup xs, h => by simp only [D.shw0] at h; simp only [pd, PyData.showable]; exact shws_able xs h
  | .lst xs, h => by simp only [D.shw0] at h; simp only [pd, PyData.showable]; exact shws_able xs h
  | .int i, h => by
    simp only [D.shw0, decide_eq_true_eq] at h
    simp only [pd, PyData.showable, decide_eq_true_eq]
    by_cases z : i.natAbs = 0
    · rw [z]; decide
    · exact (Nat.log2_lt z).mpr (Nat.lt_of_lt_of_le h (by exact Nat.pow_le_pow_right (n := 2) (i := 64) (by decide) (by decide)))
  | .non, _ => by simp [pd, PyData.showable]
  | .bl _, _ => by simp [pd, PyData.showable]
  | .str _, h => by simp [pd, PyData.showable]
  | .dct _ _, h => by simp [D.shw0] at h
  | .set _, h => by simp [D.shw0] at h
  | .ref _, h => by simp [D.shw0] at h
  | .fn _, h => by simp [D.shw0] at h
  | .cls _, h => by simp [D.shw0] at h
  | .ty _, h => by simp [D.shw0] at h
theorem shws_able : ∀ ds : List D, D.shws0 ds = true → PyData.showableAll (pds ds) = true
  | [], _ => rfl
  | d :: ds, h => by simp only [D.shws0, Bool.and_eq_true] at h; simp only [pds, PyData.showableAll, shw_able d h.1, shws_able ds h.2, Bool.and_self]
end
mutual
theorem pd_nodict : ∀ d : D, (pd d).hasDict = false
  | .tup xs => by simp only [pd, PyData.hasDict]; exact pds_nodict xs
  | .lst xs => by simp only [pd, PyData.hasDict]; exact pds_nodict xs
  | .int i => by simp [pd, PyData.hasDict]
  | .non => by simp [pd, PyData.hasDict]
  | .bl _ => by simp [pd, PyData.hasDict]
  | .str _ => by simp [pd, PyData.hasDict]
  | .dct _ _ => by simp [pd, PyData.hasDict]
  | .set _ => by simp [pd, PyData.hasDict]
  | .ref _ => by simp [pd, PyData.hasDict]
  | .fn _ => by simp [pd, PyData.hasDict]
  | .cls _ => by simp [pd, PyData.hasDict]
  | .ty _ => by simp [pd, PyData.hasDict]
theorem pds_nodict : ∀ ds : List D, PyData.hasDictAll (pds ds) = false
  | [] => rfl
  | d :: ds => by simp only [pds, PyData.hasDictAll, pd_nodict d, pds_nodict ds, Bool.or_self]
end
/-! with the empty dict -/
mutual
def pdS : D → PyData
  | .bl b => .bool b
  | .int i => .int i
  | .str s => .str (strV s)
  | .tup xs => .tuple (pdSs xs)
  | .lst xs => .list (pdSs xs)
  | .dct _ _ => .dict []
  | _ => .none
def pdSs : List D → List PyData
  | [] => []
  | x :: xs => pdS x :: pdSs xs
end
mutual
theorem pdS_shw0 : ∀ d : D, d.shw0 = true → pdS d = pd d
  | .tup xs, h => by simp only [D.shw0] at h; simp only [pdS, pd, pdSs_shw0 xs h]
  | .lst xs, h => by simp only [D.shw0] at h; simp only [pdS, pd, pdSs_shw0 xs h]
  | .non, _ => rfl
  | .bl _, _ => rfl
  | .int _, _ => rfl
  | .str _, _ => rfl
  | .dct _ _, h => by simp [D.shw0] at h
  | .set _, h => by simp [D.shw0] at h
  | .ref _, h => by simp [D.shw0] at h
  | .fn _, h => by simp [D.shw0] at h
  | .cls _, h => by simp [D.shw0] at h
  | .ty _, h => by simp [D.shw0] at h
theorem pdSs_shw0 : ∀ ds : List D, D.shws0 ds = true → pdSs ds = pds ds
  | [], _ => rfl
  | d :: ds, h => by simp only [D.shws0, Bool.and_eq_true] at h; simp only [pdSs, pds, pdS_shw0 d h.1, pdSs_shw0 ds h.2]
end
mutual
theorem shwT_able : ∀ d : D, d.shwT = true → (pdS d).showable = true
  | .tup xs, h => by simp only [D.shwT] at h; simp only [pdS, PyData.showable]; exact shwTs_able xs h
  | .int i, h => by
    have := shw_able (.int i) (by simpa [D.shw0, D.shwT] using h)
    simpa [pd, pdS] using this
  | .non, _ => by simp [pdS, PyData.showable]
  | .bl _, _ => by simp [pdS, PyData.showable]
  | .str _, h => by simp [pdS, PyData.showable]
  | .dct _ _, h => by simp [pdS, PyData.showable, PyData.showableKv]
  | .lst _, h => by simp [D.shwT] at h
  | .set _, h => by simp [D.shwT] at h
  | .ref _, h => by simp [D.shwT] at h
  | .fn _, h => by simp [D.shwT] at h
  | .cls _, h => by simp [D.shwT] at h
  | .ty _, h => by simp [D.shwT] at h
theorem shwTs_able : ∀ ds : List D, D.shwTs ds = true → PyData.showableAll (pdSs ds) = true
  | [], _ => rfl
  | d :: ds, h => by simp only [D.shwTs, Bool.and_eq_true] at h; simp only [pdSs, PyData.showableAll, shwT_able d h.1, shwTs_able ds h.2, Bool.and_self]
end
mutual
theorem pdS_depth : ∀ a : D, (pdS a).depth ≤ a.depth
  | .tup xs => by simp only [pdS, PyData.depth, D.depth]; have := pdSs_depth xs; omega
  | .lst xs => by simp only [pdS, PyData.depth, D.depth]; have := pdSs_depth xs; omega
  | .dct _ _ => by simp [pdS, PyData.depth, PyData.depthKv, D.depth]
  | .non => by simp [pdS, PyData.depth, D.depth]
  | .bl _ => by simp [pdS, PyData.depth, D.depth]
  | .int _ => by simp [pdS, PyData.depth, D.depth]
  | .str _ => by simp [pdS, PyData.depth, D.depth]
  | .set _ => by simp [pdS, PyData.depth, D.depth]
  | .ref _ => by simp [pdS, PyData.depth, D.depth]
  | .fn _ => by simp [pdS, PyData.depth, D.depth]
  | .cls _ => by simp [pdS, PyData.depth, D.depth]
  | .ty _ => by simp [pdS, PyData.depth, D.depth]
theorem pdSs_depth : ∀ a : List D, PyData.depthAll (pdSs a) ≤ D.depths a
  | [] => by simp [pdSs, PyData.depthAll]
  | x :: xs => by simp only [pdSs, PyData.depthAll, D.depths]; have := pdS_depth x; have := pdSs_depth xs; omega
end
/-- the program's repr is the model's -/
def repD (d : D) : List Nat := (pdS d).shown.cps.toList
theorem strV_rep (d : D) : strV (repD d) = (pdS d).shown := by
  unfold strV repD
  simp
section
variable {X : Cx} {L : Ln} {call : CallT} {W : WX} {wd : Wd} {pins : List (Addr × PySem.Obj)} {σ : L2.St} {s : Shared}
theorem dct0_reads (I : Inv X pins σ wd.H s) {a : Addr} {kk vv : List V} (d : DctAt X.prog X.w wd.H a [] kk vv) : ∃ as, Reads s.heap (.ref a) (.dict []) as ∧ ∀ b ∈ as, (b == sysModules) = false := by
  rcases d with ⟨kvs, r, _, _, e⟩ | ⟨xs, _, _, _, ne, _⟩
  · have : kvs = [] := by
      cases kvs with
      | nil => rfl
      | cons x r => simp at e
    subst this
    obtain ⟨_, lo, vs, rel, o, es, ep, h1, h2, h3, _, hp, _⟩ := dk_rd I.hok r
    have hv : vs = [] := by cases rel; rfl
    subst hv
    have hlen := hp.length
    have he : es.toList = [] := by simpa using hlen
    refine ⟨_, Reads.dict (kvs := []) h1 h2.1 h3 (by rw [he]; exact .nil) (by rw [he]; exact .nil), fun b hb => ?_⟩
    have : b = a := by simpa using hb
    rw [this]
    exact lo
  · exact absurd rfl ne
mutual
theorem reads_T (I : Inv X pins σ wd.H s) : ∀ {d : D} {v : V} {u : Value}, RepV X.prog X.w X.K L wd d v → RelV v u → d.shwT = true → ∃ as, Reads s.heap u (pdS d) as ∧ ∀ b ∈ as, (b == sysModules) = false
  | .non, v, u, r, rv, _ => by
    rw [RepV] at r; subst r; cases rv
    exact ⟨_, Reads.none, (fun b hb => by cases hb)⟩
  | .bl b, v, u, r, rv, _ => by
    rw [RepV] at r; subst r; cases rv
    exact ⟨_, Reads.bool b, (fun b hb => by cases hb)⟩
  | .int i, v, u, r, rv, _ => by
    rw [RepV] at r; subst r
    obtain ⟨t, rfl⟩ := rv
    exact ⟨_, Reads.int i t, (fun b hb => by cases hb)⟩
  | .str y, v, u, r, rv, _ => by
    rw [RepV] at r; subst r
    obtain ⟨t, rfl⟩ := rv
    exact ⟨_, Reads.str _ t, (fun b hb => by cases hb)⟩
  | .tup ds, v, u, r, rv, h => by
    obtain ⟨_, a, rfl, hq⟩ := tup_at r
    obtain ⟨vs, sq, rr⟩ := hq wd (ExtF.refl wd)
    cases rv
    obtain ⟨its, rvs, ⟨o, ho, hc, n, hd⟩, _⟩ := I.tuple sq
    simp only [D.shwT] at h
    obtain ⟨as, hr, hs⟩ := reads_Ts I rr rvs h
    exact ⟨as, Reads.tuple ho hc hd hr, hs⟩
  | .dct [] [], v, u, r, rv, _ => by
    rw [RepV] at r
    obtain ⟨a, kk, vv, rfl, _, da, _⟩ := r
    cases rv
    exact dct0_reads I da
  | .dct (_ :: _) _, _, _, _, _, h => by simp [D.shwT] at h
  | .dct [] (_ :: _), _, _, _, _, h => by simp [D.shwT] at h
  | .lst _, _, _, _, _, h => by simp [D.shwT] at h
  | .set _, _, _, _, _, h => by simp [D.shwT] at h
  | .ref _, _, _, _, _, h => by simp [D.shwT] at h
  | .fn _, _, _, _, _, h => by simp [D.shwT] at h
  | .cls _, _, _, _, _, h => by simp [D.shwT] at h
  | .ty _, _, _, _, _, h => by simp [D.shwT] at h
theorem reads_Ts (I : Inv X pins σ wd.H s) : ∀ {ds : List D} {vs : List V} {us : List Value}, RepVs X.prog X.w X.K L wd ds vs → Vals vs us → D.shwTs ds = true → ∃ as, ReadsAll s.heap us (pdSs ds) as ∧ ∀ b ∈ as, (b == sysModules) = false
  | [], _, _, r, rv, _ => by
    rw [r.nil_inv] at rv
    cases rv
    exact ⟨_, ReadsAll.nil, (fun b hb => by cases hb)⟩
  | d :: ds, _, _, r, rv, h => by
    obtain ⟨v, r', rfl, r1, r2⟩ := r.inv
    simp only [D.shwTs, Bool.and_eq_true] at h
    cases rv with
    | cons v1 v2 =>
      obtain ⟨as, q1, s1⟩ := reads_T I r1 v1 h.1
      obtain ⟨bs, q2, s2⟩ := reads_Ts I r2 v2 h.2
      refine ⟨_, ReadsAll.cons q1 q2, fun b hb => ?_⟩
      rcases List.mem_append.mp hb with z | z
      · exact s1 b z
      · exact s2 b z
end
theorem bi_repr (hr : L.g.rep = repD) (hg : X.A.guards = some []) (hu : X.A.units + 64 < cLine) : CallR X (.builtin "repr") (RB (sy X L) .repr) := fun pins s σ H xs us Q I rv ⟨h, wd, ds, eH, ok, rh, r, d, e, g⟩ => by
  subst eH
  match ds, r, e with
  | [dx], r, e =>
    obtain ⟨x, rfl, rx⟩ := paired1 r
    simp only [biD] at e
    obtain ⟨⟨hs, hd, hl⟩, rfl⟩ := some_if e
    rw [hr] at hl g
    have hlen : (pdS dx).shown.length ≤ sizeLine := by
      rw [← strV_rep, strV_len]; exact most_size hl
    obtain ⟨u, rfl, ru⟩ := Vals.one rv
    have fin : ∀ t s', Inv X pins σ wd.H s' → EP X pins σ Q (.str (pdS dx).shown t) s' := fun t s' I' => ⟨.str (strV (repD dx)), wd.H, I', ⟨t, by rw [strV_rep]⟩, good_at g ok rh (by rw [RepV])⟩
    have hpd := pdS_depth dx
    have main : (pdS dx).showable = true ∧ ∃ as, Reads s.heap u (pdS dx) as ∧ ((pdS dx).hasDict = true → sysModules ∉ as) := by
      rcases Bool.or_eq_true_iff.mp (show (dx.shw0 || dx.shwT) = true from hs) with z | z
      · have e0 := pdS_shw0 dx z
        rw [e0]
        obtain ⟨as, rd⟩ := Dp.reads I (pd dx) x u (dp_ofP rx (shw_plain dx z)) ru
        exact ⟨shw_able dx z, as, rd, fun y => by rw [pd_nodict] at y; cases y⟩
      · refine ⟨shwT_able dx z, ?_⟩
        have fromS : (∃ as, Reads s.heap u (pdS dx) as ∧ ∀ b ∈ as, (b == sysModules) = false) → ∃ as, Reads s.heap u (pdS dx) as ∧ ((pdS dx).hasDict = true → sysModules ∉ as) := fun ⟨as, h1, h2⟩ => ⟨as, h1, fun _ hm => by
          have := h2 _ hm
          simp at this⟩
        rcases rx with rx | ⟨p, rfl, ow⟩
        · exact fromS (reads_T I rx ru z)
        · cases ru
          obtain ⟨⟨o, ho, ro⟩, _⟩ := ow
          cases dx with
          | dct ks vs =>
            cases ho
            obtain ⟨kk, vv, da, _⟩ := ro
            cases ks with
            | nil => exact fromS (dct0_reads I da)
            | cons k r => simp [D.shwT] at z
          | lst xs => simp [D.shwT] at z
          | _ => cases ho
    obtain ⟨ha, as, rd, hsm⟩ := main
    have ref : ∀ a, u = .ref a → wpAny (model X.prog X.w) X.A (PySem.call (.builtin "repr") [u]) (EP X pins σ Q) X.xe s := fun a ea => by
      subst ea
      exact repr_of_reads' rd ha hsm hg (by omega) (fun _ _ e => e) (fun h' t tk hk => fin t _ (I.kept hk)) hlen
    cases dx with
    | non =>
      have : x = .non := by
        rcases rx with r | ⟨p, _, ⟨⟨o, ho, _⟩, _⟩⟩
        · rw [RepV] at r; exact r
        · cases ho
      subst this
      cases ru
      exact PySem.P.repr_of_none (fin _ _ (I.tok _))
    | bl b =>
      have := rx.bl
      subst this
      cases ru
      exact PySem.P.repr_of_bool (fin _ _ (I.tok _))
    | int i =>
      have := int_at rx
      subst this
      obtain ⟨t, rfl⟩ := ru
      exact PySem.P.repr_of_int (by simpa [pdS, PyData.showable] using ha) (fin _ _ (I.tok _))
    | str y =>
      have := str_at rx
      subst this
      obtain ⟨t, rfl⟩ := ru
      exact PySem.P.repr_of_str (fin _ _ (I.tok _)) hlen
    | tup ys =>
      obtain ⟨_, a, rfl, _⟩ := tup_at rx.tup
      exact ref a ru
    | lst ys =>
      obtain ⟨_, a, rfl, _⟩ := list_at ok rh rx (show asL (.lst ys) h = some ys from rfl)
      exact ref a ru
    | dct ks vs =>
      rcases rx with rx | ⟨p, rfl, ow⟩
      · rw [RepV] at rx
        obtain ⟨a, kk, vv, rfl, _⟩ := rx
        exact ref a ru
      · exact ref p ru
    | _ => simp [D.shw, D.shw0, D.shwT] at hs
  | [], _, e => cases e
  | _ :: _ :: _, _, e => simp [biD] at e
end
end Mi
end
section
set_option Elab.async false
set_option linter.all false
set_option maxRecDepth 100000
set_option maxHeartbeats 800000
/-! Slices; fresh lists. -/
namespace Mi
open PySem L2

/-! ### slices -/
theorem bound_sIx (n d : Nat) (i : Int) : HT.sIx n d (some i) = bound n i := rfl
theorem cut_eq {α : Type} (xs : List α) (lo hi : Option Int) : cut xs lo hi = (xs.drop (HT.sIx xs.length 0 lo)).take (HT.sIx xs.length xs.length hi - HT.sIx xs.length 0 lo) := by
  unfold cut
  rw [List.take_drop]
  cases lo with
  | none =>
    cases hi with
    | none => simp [HT.sIx]
    | some j => simp [HT.sIx, bound]
  | some i =>
    have ih : HT.sIx xs.length 0 (some i) = bound xs.length i := rfl
    rw [ih]
    cases hi with
    | none =>
      have jh : HT.sIx xs.length xs.length none = xs.length := rfl
      rw [jh]
      dsimp only
      by_cases q : bound xs.length i ≤ xs.length
      · rw [Nat.add_sub_cancel' q]
      · rw [show xs.length - bound xs.length i = 0 by omega, Nat.add_zero, List.drop_take_self]
        rw [List.take_of_length_le (Nat.le_refl _), List.drop_of_length_le (by omega)]
    | some j =>
      have jh : HT.sIx xs.length xs.length (some j) = bound xs.length j := rfl
      rw [jh]
      dsimp only
      by_cases q : bound xs.length i ≤ bound xs.length j
      · rw [Nat.add_sub_cancel' q]
      · rw [show bound xs.length j - bound xs.length i = 0 by omega, Nat.add_zero, List.drop_take_self]
        rw [List.drop_of_length_le (by rw [List.length_take]; omega)]
theorem cut_len {α : Type} (xs : List α) (lo hi : Option Int) : (cut xs lo hi).length ≤ xs.length := by
  rw [cut_eq, List.length_take, List.length_drop]; omega
section
variable {X : Cx} {L : Ln} {call : CallT} {W : WX}
theorem RepVs.cut {P w K} {wd : Wd} {ds : List D} {vs : List V} (r : RepVs P w K L wd ds vs) (lo hi : Option Int) : RepVs P w K L wd (cut ds lo hi) (cutV vs lo hi) := by
  rw [cut_eq]
  unfold cutV
  rw [r.len]
  exact (r.drop _).take _
theorem optI_map (o : Option Int) : optI (o.map .int) = some o := by cases o <;> rfl
def RSl (S : Sy) : V → Option Int → Option Int → Hp → VK → Prop := fun x lo hi H Q => ∃ h wd dx d, wd.H = H ∧ WOk wd ∧ RepH S.P S.w S.K S.L wd h ∧ RepP S.P S.w S.K S.L wd dx x ∧ slD dx (lo.map .int) (hi.map .int) h = some d ∧ Good S wd false Q d h
/-- a new tuple, frozen -/
theorem good_tup {S : Sy} {wd : Wd} {h : AH} {Q : VK} {xs : List D} {vs : List V} {q : Addr} (g : Good S wd false Q (.tup xs) h) (ok : WOk wd) (rh : RepH S.P S.w S.K S.L wd h) (r : RepVs S.P S.w S.K S.L wd xs vs) (hl : xs.length ≤ most) (hq : wd.H q = none) : Q (.ref q) (upd wd.H q (.tup vs)) := by
  have e2 := Ext.lay wd (o := .tup vs) hq
  have fr := lay_free ok hq
  refine g (.ref q) ((wd.lay q (.tup vs)).frz q) (e2.frz (fun z => z.ne hq)) ((ok.lay hq).frz (nt_upd (fun _ z => nomatch z)) fr.2) ((rh.lay ok hq).frz q) ?_
  simp only [Bool.false_eq_true, if_false]
  rw [RepV]
  exact ⟨q, _, rfl, .inl ⟨.inr rfl, .inl upd_same⟩, (r.ext e2 ok).sub (Sub.frz _ q), hl⟩
theorem good_lst {S : Sy} {wd : Wd} {h : AH} {Q : VK} {xs : List D} {vs : List V} {q : Addr} (g : Good S wd false Q (.lst xs) h) (ok : WOk wd) (rh : RepH S.P S.w S.K S.L wd h) (r : RepVs S.P S.w S.K S.L wd xs vs) (hl : xs.length ≤ most) (hq : wd.H q = none) : Q (.ref q) (upd wd.H q (.lst vs)) := by
  have e2 := Ext.lay wd (o := .lst vs) hq
  have fr := lay_free ok hq
  refine g (.ref q) ((wd.lay q (.lst vs)).frz q) (e2.frz (fun z => z.ne hq)) ((ok.lay hq).frz (nt_upd (fun _ z => nomatch z)) fr.2) ((rh.lay ok hq).frz q) ?_
  simp only [Bool.false_eq_true, if_false]
  rw [RepV]
  exact ⟨q, _, rfl, .inl ⟨.inr rfl, .inl upd_same⟩, (r.ext e2 ok).sub (Sub.frz _ q), hl⟩
/-- a new list, owned -/
theorem own_lst {S : Sy} {wd wd0 : Wd} {h : AH} {Q : VK} {xs : List D} {vs : List V} {q : Addr} (g : GoodF S wd0 Q (.lst xs) h) (x0 : Ext wd0 wd) (ok : WOk wd) (rh : RepH S.P S.w S.K S.L wd h) (r : RepVs S.P S.w S.K S.L wd xs vs) (hl : xs.length ≤ most) (hq : wd.H q = none) : Q (.ref q) (upd wd.H q (.lst vs)) :=
  g q (wd.lay q (.lst vs)) (x0.trans (Ext.lay wd hq)) (ok.lay hq) (rh.lay ok hq) ⟨⟨_, rfl, vs, upd_same, r.ext (Ext.lay wd hq) ok, hl⟩, lay_free ok hq⟩ (fun z => (x0.live q z).ne hq)
theorem sl_rep : SlR X (RSl (sy X L)) := fun pins s σ H x v vl vu lo hi sl Q I rx hs pl pu ⟨h, wd, dx, d, eH, ok, rh, rp, e, g⟩ => by
  subst eH
  simp only [slD, optI_map] at e
  have lst : ∀ xs, asL dx h = some xs → d = .lst (cut xs lo hi) → ∃ T id, typeLookup (.type T) "__getitem__" = pure (some (.builtin id)) ∧ s.TypeIs v T ∧ wpAny (model X.prog X.w) X.A (getItem v (.ref sl)) (EP X pins σ Q) X.xe s := fun xs e1 ed => by
    subst ed
    obtain ⟨a, vs, rfl, sq, rvs, hl⟩ := asL_sq ok rh rp e1
    exact sl_list pins s σ wd.H (.ref a) v vl vu lo hi sl Q I rx hs pl pu ⟨a, vs, rfl, sq, fun p hp => good_lst g ok rh (rvs.cut lo hi) (Nat.le_trans (cut_len _ _ _) hl) hp⟩
  cases dx with
  | str y =>
    have e : (if y.length ≤ most then some (D.str (cut y lo hi)) else none) = some d := e
    obtain ⟨hl, rfl⟩ := some_if e
    have := str_at rp
    subst this
    refine sl_str pins s σ wd.H _ v vl vu lo hi sl Q I rx hs pl pu ⟨_, rfl, by rw [strV_len]; exact most_size hl, ?_⟩
    have : cutS (strV y) lo hi = strV (cut y lo hi) := by
      rw [cut_eq]
      unfold cutS
      rw [strV_len]
      simp [strV]
    rw [this]
    exact good_at g ok rh (by rw [RepV])
  | tup xs =>
    cases e
    obtain ⟨hl, a, rfl, hl2⟩ := tup_at rp.tup
    obtain ⟨vs, sq, rvs⟩ := hl2 wd (ExtF.refl _)
    refine sl_tupA pins s σ wd.H (.ref a) v vl vu lo hi sl Q I rx hs pl pu ⟨a, vs, rfl, sq, fun z => ?_, fun z p hp => good_tup g ok rh (rvs.cut lo hi) (Nat.le_trans (cut_len _ _ _) hl) hp⟩
    have : cut xs lo hi = xs := by
      rw [cut_eq, rvs.len, z.1, z.2]
      simp [← rvs.len]
    rw [this] at g
    exact good_at g ok rh rp.tup
  | lst xs =>
    have e : some (D.lst (cut xs lo hi)) = some d := e
    exact lst xs rfl (Option.some.inj e).symm
  | ref n =>
    dsimp only at e
    obtain ⟨xs, e1, e2⟩ := Option.map_eq_some_iff.mp e
    exact lst xs e1 e2.symm
  | _ => cases e
/-- the reading of a slice's part -/
def RdO (S : Sy) (call : CallT) (W : WX) (o : Option E) : TO := fun σ H Q => ∃ en h wd, wd.H = H ∧ Sat S wd σ en h ∧ Post S wd (fun c d => W c d σ) (fun dO h' => ∀ wd', Ext wd wd' → WOk wd' → RepH S.P S.w S.K S.L wd' h' → ∃ i, dO = Option.map D.int i ∧ Q i wd'.H) (evO S.L.g call o en h)
theorem ro_none : PO X none (RdO (sy X L) call W none) := ⟨fun pins s σ H Q I ⟨en, h, wd, e1, st, p⟩ => by
  subst e1
  rw [evO] at p
  obtain ⟨i, e, q⟩ := p wd (Ext.refl _) st.ok st.rh
  cases i with
  | none => exact po_none.run pins s σ _ Q I q
  | some i => cases e⟩
theorem ro_some {e : Expr} {e' : E} (he : PE X e (RdE (sy X L) call W e')) : PO X (some e) (RdO (sy X L) call W (some e')) := ⟨fun pins s σ H Q I ⟨en, h, wd, e1, st, p⟩ => by
  subst e1
  rw [evO] at p
  refine (po_some he).run pins s σ _ Q I (rdE_step st p.bind fun d h1 v wd1 g x1 st1 r _ => ?_)
  obtain ⟨i, e, q⟩ := g wd1 x1 st1.ok st1.rh
  cases i with
  | none => cases e
  | some i =>
    have : d = .int i := Option.some.inj e
    subst this
    exact ⟨i, int_at r, q⟩⟩
theorem slD_optI {x : D} {l r : Option D} {h : AH} {d : D} (e : slD x l r h = some d) : (∃ i : Option Int, l = i.map .int) ∧ ∃ i : Option Int, r = i.map .int := by
  have oi : ∀ {o : Option D} {i : Option Int}, optI o = some i → o = i.map .int := fun {o i} e => by
    cases o with
    | none => cases e; rfl
    | some d => cases d <;> first | (cases e; rfl) | cases e
  unfold slD at e
  cases e1 : optI l with
  | none => rw [e1] at e; cases e
  | some a =>
    cases e2 : optI r with
    | none => rw [e1, e2] at e; cases e
    | some b => exact ⟨⟨a, oi e1⟩, ⟨b, oi e2⟩⟩
theorem optI_some {o : Option D} (h : (optI o).isSome = true) : ∃ i : Option Int, o = i.map .int ∧ optI o = some i := by
  cases o with
  | none => exact ⟨none, rfl, rfl⟩
  | some d => cases d <;> first | exact ⟨_, rfl, rfl⟩ | cases h
theorem rd_sl {e : Expr} {lo hi : Option Expr} {e' : E} {lo' hi' : Option E} {pos p2 : Pos} (he : PE X e (RdE (sy X L) call W e')) (hl : PO X lo (RdO (sy X L) call W lo')) (hh : PO X hi (RdO (sy X L) call W hi')) :
    PE X (.Subscript e (.Slice lo hi none p2) pos) (RdE (sy X L) call W (.sl e' lo' hi')) := (pe_slice (pos := pos) (p2 := p2) sl_rep he hl hh).impM fun σ H Q ⟨en, h, wd, e1, st, q⟩ => by
  subst e1
  rw [evE] at q
  refine rdE_step st q.bind fun d h1 v wd1 g x1 st1 r _ => ?_
  refine ⟨en, h1, wd1, rfl, st1, (Post.ext g.bind x1 fun _ _ z => z).mono fun dl h2 g2 wd2 x2 ok2 rh2 => ?_⟩
  cases o1 : (optI dl).isSome with
  | false => rw [o1] at g2; exact g2.elim
  | true =>
    rw [o1, if_pos rfl] at g2
    obtain ⟨i, ei, _⟩ := optI_some o1
    subst ei
    refine ⟨i, rfl, en, h2, wd2, rfl, st1.ext x2 ok2 rh2, (Post.ext g2.bind (x1.trans x2) fun _ _ z => z).mono fun dr h3 g3 wd3 x3 ok3 rh3 => ?_⟩
    cases o2 : (optI dr).isSome with
    | false => rw [o2] at g3; exact g3.elim
    | true =>
      rw [o2, if_pos rfl] at g3
      obtain ⟨j, ej, _⟩ := optI_some o2
      subst ej
      obtain ⟨y, hy, g4⟩ := g3.ofO
      refine ⟨j, rfl, h3, wd3, d, y, rfl, ok3, rh3, (r.ext x2 st1.ok).ext x3 ok2, hy, fun u wd4 x4 ok4 rh4 r4 => g4 u wd4 (x1.trans (x2.trans (x3.trans x4))) ok4 rh4 (by simpa [isOwn] using r4)⟩
/-- tuple(range(n)) -/
theorem rgV_rep {P w K} {wd : Wd} (n : Int) : RepVs P w K L wd (rangeL 0 n.toNat 1) (rgV 0 n) := by
  have : ∀ (l : List Nat), RepVs P w K L wd (l.map fun (i : Nat) => D.int (0 + (i : Int) * 1)) (l.map fun i => V.int (0 + (i : Nat))) := by
    intro l
    induction l with
    | nil => exact .nil
    | cons a l ih => exact .cons (by rw [RepV, Int.mul_one]) ih
  unfold rangeL rgV
  rw [Int.sub_zero]
  exact this _
theorem rd_tupRg {a : Expr} {a' : E} {p p2 pos q : Pos} (hc : X.calm = true) (hg : Gl X "tuple") (hm : X.mg "tuple" = none) (hg2 : Gl X "range") (hm2 : X.mg "range" = none) (ha : PE X a (RdE (sy X L) call W a')) (na : starEach [a] X.env = (false, eval a X.env) :: starEach [] X.env)
    (nr : starEach [Expr.Call (.Name "range" p2) [a] [] q] X.env = (false, eval (Expr.Call (.Name "range" p2) [a] [] q) X.env) :: starEach [] X.env) :
    PE X (.Call (.Name "tuple" p) [.Call (.Name "range" p2) [a] [] q] [] pos) (RdE (sy X L) call W (.bit .tuple (.r1 a'))) := (pe_tupRg (p := p) (pos := pos) hc hg hm (prg_1 hg2 hm2 ha na) nr).impM fun σ H Q ⟨en, h, wd, e1, st, q⟩ => by
  subst e1
  rw [evE, evI] at q
  refine rdE_step st q.bind.bind fun d h1 v wd1 g x1 st1 r _ => ?_
  cases d with
  | int n =>
    have := int_at r
    subst this
    dsimp only at g
    by_cases hw : (wide n = true) ∧ n.toNat ≤ most
    · rw [if_pos hw] at g
      obtain ⟨w1, w2⟩ := wide_of hw.1
      have g : Post (sy X L) wd (fun c d => W c d σ) (Good (sy X L) wd (isOwn (.bit .tuple (.r1 a')) en) Q) (ofO (biD L.g .tuple [.lst (rangeL 0 n.toNat 1)] h1) h1) := g
      obtain ⟨y, hy, g⟩ := g.ofO
      have : y = .tup (rangeL 0 n.toNat 1) := (Option.some.inj hy).symm
      subst this
      refine ⟨n, rfl, ⟨by decide, by decide, by omega, by omega, by have := hw.2; unfold most at this; omega⟩, fun q hq => ?_⟩
      exact good_tup (xs := rangeL 0 n.toNat 1) (fun v wd2 x2 ok2 rh2 r2 => g v wd2 (x1.trans x2) ok2 rh2 (by simpa [isOwn] using r2)) st1.ok st1.rh (rgV_rep n) (by rw [rangeL_len]; exact hw.2) hq
    · rw [if_neg hw] at g; exact g.elim
  | _ => exact g.elim
end
end Mi
end
section
set_option Elab.async false
set_option linter.all false
set_option maxRecDepth 100000
set_option maxHeartbeats 800000
/-! Methods of built-in types. -/
namespace Mi
open PySem L2

def tagT : Nat → String
  | 2 => "str" | 3 => "tuple" | 4 => "list" | _ => "dict"
/-- the value is of that type -/
def TyS (X : Cx) (T : String) (x : V) (H : Hp) : Prop := ∀ (pins : List (Addr × PySem.Obj)) (σ : L2.St) (s : Shared) (v : Value), Inv X pins σ H s → RelV x v → s.TypeIs v T ∧ ∀ a, v = .ref a → ∃ ob, s.heap.get? a = some ob ∧ ob.dict = none
/-- a method of a type -/
def BmT (X : Cx) (name : Str) (tag : Nat) (r : V → List V → Hp → VK → Prop) : Prop := ∃ id, PlainAttrs (tagT tag) ∧ Slot (tagT tag) name id ∧ typeOf (.builtin id) = pure (.type "method_descriptor") ∧ MtR X id r
section
variable {X : Cx} {L : Ln} {call : CallT} {W : WX} {o e : Expr} {es : List Expr} {name : Str} {apos cpos : Pos} {to : TE} {t : TA} {ok : Nat → Prop} {r : Nat → V → List V → Hp → VK → Prop}
def tBS0 (X : Cx) (ok : Nat → Prop) (r : Nat → V → List V → Hp → VK → Prop) (to : TE) : TE := fun σ H Q => to σ H fun x H1 => ∃ tag, ok tag ∧ TyS X (tagT tag) x H1 ∧ r tag x [] H1 Q
def tBS (X : Cx) (ok : Nat → Prop) (r : Nat → V → List V → Hp → VK → Prop) (to : TE) (t : TA) : TE := fun σ H Q => to σ H fun x H1 => ∃ tag, ok tag ∧ TyS X (tagT tag) x H1 ∧ t σ H1 fun xs H2 => r tag x xs H2 Q
theorem pe_bs0 (hm : ∀ tag, ok tag → BmT X name tag (r tag)) (ho : PE X o to) (hbase : attributeBase o name X.env (eval o X.env) = eval o X.env) (hline : (apos.endLine == cpos.line) = true) :
    PE X (.Call (.Attribute o name apos) [] [] cpos) (tBS0 X ok r to) := by
  refine ⟨fun pins s σ H Q I h => ?_⟩
  refine wpAny_Call_method0_late hbase hline (thn (ho.run pins s σ H _ I h) fun v s1 ⟨x, H1, I1, r1, tag, hk, ty, q1⟩ => ?_)
  obtain ⟨h1, h2⟩ := ty pins σ s1 v I1 r1
  obtain ⟨id, pa, slot, hty, hm⟩ := hm tag hk
  exact ⟨_, id, pa, slot, hty, h1, h2, PySem.Calls.callWith_builtin rfl (PySem.evalArgs_none (hm pins s1 σ H1 x [] v [] Q I1 r1 .nil q1))⟩
theorem pe_bs (hm : ∀ tag, ok tag → BmT X name tag (r tag)) (ho : PE X o to) (ha : PA X (e :: es) t) (hbase : attributeBase o name X.env (eval o X.env) = eval o X.env)
    (hfew : ((backTo cpos (starEach (e :: es) X.env)).all (fun x => !x.1) && (backToKw cpos (keywordEach [] X.env)).all (fun x => x.1.isSome)
      && decide ((e :: es).length + ([] : List Keyword).length + (if ([] : List Keyword).isEmpty then 0 else 1) < 30)) = true)
    (hline : (apos.endLine == cpos.line) = true) (hs : starEach (e :: es) X.env = (false, eval e X.env) :: starEach es X.env) (hplain : (backTo cpos (starEach es X.env)).any (·.1) = false) :
    PE X (.Call (.Attribute o name apos) (e :: es) [] cpos) (tBS X ok r to t) := by
  refine ⟨fun pins s σ H Q I h => ?_⟩
  refine wpAny_Call_method_late hbase hfew hline rfl (thn (ho.run pins s σ H _ I h) fun v s1 ⟨x, H1, I1, r1, tag, hk, ty, q1⟩ => ?_)
  obtain ⟨h1, h2⟩ := ty pins σ s1 v I1 r1
  obtain ⟨id, pa, slot, hty, hm⟩ := hm tag hk
  refine ⟨_, id, pa, slot, hty, h1, h2, ?_⟩
  have hA := ha.run cpos pins s1 σ H1 _ I1 q1
  rw [hs] at hA ⊢
  refine PySem.Calls.callWith_builtin (by show (false || (backTo cpos (starEach es X.env)).any (·.1)) = false; rw [hplain] <;> rfl) (PySem.Calls.evalArgs_plain ?_)
  exact thn hA fun us s2 ⟨vs, H2, I2, r2, q2⟩ => hm pins s2 σ H2 x vs v us Q I2 r1 r2 q2
/-- the type of a represented value -/
theorem tyS_of {wd : Wd} {h : AH} {dx : D} {x : V} {tag : Nat} (ok : WOk wd) (rh : RepH X.prog X.w X.K L wd h) (rx : RepP X.prog X.w X.K L wd dx x) (e : tagD dx h = tag) (ht : tag ≠ 0) (ht3 : tag ≠ 3) : TyS X (tagT tag) x wd.H := fun pins σ s v I rv => by
  have lst : ∀ xs, asL dx h = some xs → tag = 4 → s.TypeIs v (tagT tag) ∧ ∀ a, v = .ref a → ∃ ob, s.heap.get? a = some ob ∧ ob.dict = none := fun xs e1 et => by
    subst et
    obtain ⟨a, vs, rfl, sq, _, _⟩ := asL_sq ok rh rx e1
    obtain rfl : v = Value.ref a := rv
    obtain ⟨its, _, pl, _⟩ := I.list sq
    refine ⟨pl.isList.typeIs, fun a e => ?_⟩
    cases e
    obtain ⟨o, n, e, c, hd, _⟩ := pl
    exact ⟨o, e, hd⟩
  have dct : ∀ ks vs, asD dx h = some (ks, vs) → tag = 5 → s.TypeIs v (tagT tag) ∧ ∀ a, v = .ref a → ∃ ob, s.heap.get? a = some ob ∧ ob.dict = none := fun ks vs e1 et => by
    subst et
    obtain ⟨a, kk, vv, rfl, da, _⟩ := dct_at rh rx e1
    obtain rfl : v = Value.ref a := rv
    have : ∃ o, s.heap.get? a = some o ∧ o.ExactDict := by
      rcases da with ⟨kvs, r, _⟩ | ⟨xs, r, _⟩
      · obtain ⟨_, _, vs, _, o, _, _, h1, h2, _⟩ := dk_rd I.hok r
        exact ⟨o, h1, h2⟩
      · obtain ⟨⟨o, es, ep, h1, h2, h3, h4⟩, _, _⟩ := I.hok a _ r
        exact ⟨o, h1, h2⟩
    obtain ⟨o, h1, h2⟩ := this
    refine ⟨⟨o, h1, h2.1⟩, fun a e => ?_⟩
    cases e
    exact ⟨o, h1, h2.2.1⟩
  cases dx with
  | str y =>
    subst e
    have := str_at rx
    subst this
    obtain ⟨t, rfl⟩ := rv
    exact ⟨typeIs_str s _ t, fun _ e => nomatch e⟩
  | tup xs =>
    exact absurd e.symm ht3
  | lst xs => exact lst xs rfl e.symm
  | dct ks vs => exact dct ks vs rfl e.symm
  | ref n =>
    simp only [tagD] at e
    cases q1 : h[n]? with
    | none => rw [q1] at e; exact absurd e.symm ht
    | some o =>
      rw [q1] at e
      cases o with
      | lst xs => exact lst xs (by simp [asL, q1]) e.symm
      | dct ks vs => exact dct ks vs (by simp [asD, q1]) e.symm
      | ins _ _ => exact absurd e.symm ht
  | _ => exact absurd e.symm ht

/-! ### methods that change nothing, by values -/
def RM (S : Sy) (m : BM) (tag : Nat) : V → List V → Hp → VK → Prop := fun x xs H Q => ∃ h wd dx ds d, wd.H = H ∧ WOk wd ∧ RepH S.P S.w S.K S.L wd h ∧ RepP S.P S.w S.K S.L wd dx x ∧ RepVs S.P S.w S.K S.L wd ds xs ∧ tagD dx h = tag ∧ bmV m dx ds h = some d ∧ Good S wd false Q d h
theorem mtv_get (hu : X.A.units + 16 < cLine) : MtR X "dict.get" (RM (sy X L) .get 5) := fun pins s σ H x xs v us Q I rv rvs ⟨h, wd, dx, ds, d, eH, ok, rh, rx, rds, tg, e, g⟩ => by
  subst eH
  have main : ∀ (ks vs : List D) (k dd : D) (y z : V) (uy uz : Value), asD dx h = some (ks, vs) → kin ks k = true → RepV X.prog X.w X.K L wd k y → RepV X.prog X.w X.K L wd dd z → RelV y uy → RelV z uz → d = (dlook ks vs k).getD dd →
      (us = [uy] ∧ uz = .none ∨ us = [uy, uz]) → wpAny (model X.prog X.w) X.A (PySem.call (.builtin "dict.get") (v :: us)) (EP X pins σ Q) X.xe s := fun ks vs k dd y z uy uz e1 hk ry rz ruy ruz ed hus => by
    obtain ⟨a, kk, vv, rfl, da, rk, rvv, nd, okk⟩ := dct_at rh rx e1
    obtain rfl : v = Value.ref a := rv
    have hk1 := (kin_key hk).1
    have fin : ∀ (w' : Value) (s' : Shared), Inv X pins σ wd.H s' → (∃ zv, RelV zv w' ∧ RepV X.prog X.w X.K L wd d zv) → EP X pins σ Q w' s' := fun w' s' I' ⟨zv, h1, h2⟩ => ⟨zv, wd.H, I', h1, good_at g ok rh h2⟩
    cases ask da rk rvv hk ry with
    | flat kvs κ r hκ ey hkk rv' =>
      have lk := look_k (L := L) (wd := wd) hκ hkk rv'
      have val : ∀ w', RelV ((valV kvs κ).getD z) w' → ∃ zv, RelV zv w' ∧ RepV X.prog X.w X.K L wd d zv := fun w' hw => by
        cases e2 : dlook ks vs k with
        | none => rw [lk.1 e2] at hw; exact ⟨z, hw, by rw [ed, e2]; exact rz⟩
        | some d' =>
          obtain ⟨zv, h1, h2⟩ := lk.2 d' e2
          rw [h1] at hw
          exact ⟨zv, hw, by rw [ed, e2]; exact h2⟩
      rcases hus with ⟨rfl, eu⟩ | rfl
      · subst eu
        have ez : z = .non := by
          cases z <;> first | rfl | (obtain ⟨t, e⟩ := ruz; cases e) | cases ruz
        subst ez
        exact d_get1 (y := y) (by omega) I (.inl ⟨kvs, κ, r, ey, rfl⟩) ruy fun w' s' I' rw' => fin w' s' I' (val w' rw')
      · exact d_get2 (y := y) (d := z) (by omega) I (.inl ⟨kvs, κ, r, ey, rfl⟩) ruy ruz fun w' s' I' rw' => fin w' s' I' (val w' rw')
    | empty b r ey e1 e2 =>
      subst e1 e2 ey
      cases (show uy = Value.ref b from ruy)
      obtain ⟨hd, hh⟩ := emptyH I r
      have ed : d = dd := ed
      subst ed
      rcases hus with ⟨rfl, eu⟩ | rfl
      · subst eu
        exact get_keyed (knd := nestedKind X.prog X.w) (k := nk k) (kvs := []) (room_nk hu) (key_is I ry hk1) hd ⟨[], hh, rfl⟩ (fin _ _ (I.tok _) ⟨z, by simpa [valueAt] using ruz, rz⟩)
      · exact getOr_keyed (knd := nestedKind X.prog X.w) (k := nk k) (kvs := []) (room_nk hu) (key_is I ry hk1) hd ⟨[], hh, rfl⟩ (fin _ _ (I.tok _) ⟨z, by simpa [valueAt] using ruz, rz⟩)
    | tup xs vv' b ey r ns hl rk' rv' vl ek =>
      subst ey
      cases (show uy = Value.ref b from ruy)
      have lk := look_t (L := L) (wd := wd) (keyOk_key hk1).1 (fun x hx => (keyOk_key (okk x hx)).1) ek rv' vl
      have val : ∃ zv, RelV zv ((valueAt (pairsH xs) (nk k)).getD uz) ∧ RepV X.prog X.w X.K L wd d zv := by
        rw [valueAt_pairsH]
        cases e2 : dlook ks vs k with
        | none => rw [lk.1 e2]; exact ⟨z, ruz, by rw [ed, e2]; exact rz⟩
        | some d' =>
          obtain ⟨p, zv, h1, h2, h3⟩ := lk.2 d' e2
          rw [h1]
          exact ⟨zv, h2, by rw [ed, e2]; exact h3⟩
      have hh := dictH I r rk' ek nd okk
      rcases hus with ⟨rfl, eu⟩ | rfl
      · subst eu
        exact get_keyed (knd := nestedKind X.prog X.w) (k := nk k) (room_nk hu) (key_is I ry hk1) ns ⟨xs, hh, rfl⟩ (fin _ _ (I.tok _) val)
      · exact getOr_keyed (knd := nestedKind X.prog X.w) (k := nk k) (room_nk hu) (key_is I ry hk1) ns ⟨xs, hh, rfl⟩ (fin _ _ (I.tok _) val)
  match ds, e with
  | [k], e =>
    simp only [bmV] at e
    obtain ⟨p, e1, e⟩ := Option.bind_eq_some_iff.mp e
    obtain ⟨hk, rfl⟩ := some_if e
    obtain ⟨y, r, rfl, ry, r0⟩ := rds.inv
    rw [r0.nil_inv] at rvs
    obtain ⟨uy, rfl, ruy⟩ := Vals.one rvs
    exact main p.1 p.2 k .non y .non uy .none e1 hk ry (by rw [RepV]) ruy rfl rfl (.inl ⟨rfl, rfl⟩)
  | [k, dd], e =>
    simp only [bmV] at e
    obtain ⟨p, e1, e⟩ := Option.bind_eq_some_iff.mp e
    obtain ⟨hk, rfl⟩ := some_if e
    obtain ⟨y, r, rfl, ry, r0⟩ := rds.inv
    obtain ⟨z, r', rfl, rz, r1⟩ := r0.inv
    rw [r1.nil_inv] at rvs
    obtain ⟨uy, uz, rfl, ruy, ruz⟩ := Vals.two rvs
    exact main p.1 p.2 k dd y z uy uz e1 hk ry rz ruy ruz rfl (.inr rfl)
  | [], e => simp [bmV] at e
  | _ :: _ :: _ :: _, e => simp [bmV] at e
/-- methods that change nothing -/
def pureM : BM → Bool
  | .get | .index | .count | .join | .startswith | .endswith => true
  | _ => false
theorem bmO_pure {m : BM} (h : pureM m = true) (o : MObj) (xs : List D) : bmO m o xs = none := by
  cases m <;> first | (simp [pureM] at h; done) | (cases o <;> first | rfl | (cases xs <;> rfl))
theorem bmD_pure {m : BM} (hm : pureM m = true) {x : D} {xs : List D} {h : AH} {wd : Wd} {W' : Value → Option Addr → Hp → Prop} {good : D → AH → Prop} (p : Post (sy X L) wd W' good (bmD x m xs h)) : ∃ d, bmV m x xs h = some d ∧ good d h := by
  unfold bmD at p
  cases e : bmV m x xs h with
  | some d => rw [e] at p; exact ⟨d, rfl, p⟩
  | none =>
    rw [e] at p
    exfalso
    cases x with
    | ref n =>
      dsimp only at p
      cases q : h[n]? with
      | none => rw [q] at p; exact p
      | some o => simp only [q, bmO_pure hm] at p; exact p
    | _ => exact p
theorem rd_bmP {m : BM} {o' : E} {es' : Es} (hp : pureM m = true) (hm : ∀ tag, bmTag m tag = true → BmT X name tag (RM (sy X L) m tag)) (hT : ∀ tag, bmTag m tag = true → tag ≠ 0 ∧ tag ≠ 3) (ho : PE X o (RdE (sy X L) call W o')) (ha : PA X (e :: es) (RdA (sy X L) call W es')) (hbase : attributeBase o name X.env (eval o X.env) = eval o X.env)
    (hfew : ((backTo cpos (starEach (e :: es) X.env)).all (fun x => !x.1) && (backToKw cpos (keywordEach [] X.env)).all (fun x => x.1.isSome)
      && decide ((e :: es).length + ([] : List Keyword).length + (if ([] : List Keyword).isEmpty then 0 else 1) < 30)) = true)
    (hline : (apos.endLine == cpos.line) = true) (hs : starEach (e :: es) X.env = (false, eval e X.env) :: starEach es X.env) (hplain : (backTo cpos (starEach es X.env)).any (·.1) = false) :
    PE X (.Call (.Attribute o name apos) (e :: es) [] cpos) (RdE (sy X L) call W (.bm o' m es')) := (pe_bs (ok := fun tag => bmTag m tag = true) hm ho ha hbase hfew hline hs hplain).impM fun σ H Q ⟨en, h, wd, e1, st, q⟩ => by
  subst e1
  rw [evE] at q
  refine rdE_step st q.bind fun d h1 v wd1 g x1 st1 r _ => ?_
  cases hb : bmTag m (tagD d h1) with
  | false => rw [hb] at g; exact g.elim
  | true =>
    rw [hb, if_pos rfl] at g
    refine ⟨_, hb, tyS_of st1.ok st1.rh r rfl (hT _ hb).1 (hT _ hb).2, en, h1, wd1, rfl, st1, (Post.ext g.bind x1 fun _ _ z => z).mono fun ds h2 g2 vs wd2 x2 ok2 rh2 rv _ => ?_⟩
    by_cases ht : tagD d h1 = tagD d h2
    · rw [if_pos ht] at g2
      obtain ⟨y, hy, g3⟩ := bmD_pure hp g2
      exact ⟨h2, wd2, d, ds, y, rfl, ok2, rh2, r.ext x2 st1.ok, rv rfl, ht.symm, hy, fun u wd3 x3 ok3 rh3 r3 => g3 u wd3 (x1.trans (x2.trans x3)) ok3 rh3 (by simpa [isOwn] using r3)⟩
    · rw [if_neg ht] at g2; exact g2.elim

/-! ### methods that change a container -/
def RMP (S : Sy) (m : BM) : V → List V → Hp → VK → Prop := fun x xs H Q => ∃ wd p ob ob' ds d, wd.H = H ∧ x = .ref p ∧ RepO S.P S.w S.K S.L wd p ob ∧ ¬ wd.Fz p ∧ RepVs S.P S.w S.K S.L wd ds xs ∧ bmO m ob ds = some (d, ob') ∧
  ∀ ho z, RepO S.P S.w S.K S.L (wd.put p ho) p ob' → RepV S.P S.w S.K S.L (wd.put p ho) d z → Q z (upd wd.H p ho)
theorem mto_append : MtR X "list.append" (RMP (sy X L) .append) := fun pins s σ H x xs v us Q I rv rvs ⟨wd, p, ob, ob', ds, d, eH, ex, ro, nf, rds, e, g⟩ => by
  subst eH ex
  match ob, ds, e with
  | .lst l, [y], e =>
    simp only [bmO] at e
    obtain ⟨hl, e⟩ := some_if e
    cases e
    obtain ⟨vs, h1, h2, h3⟩ := ro
    obtain ⟨z, r, rfl, rz, r0⟩ := rds.inv
    have := r0.nil_inv
    subst this
    exact mt_append pins s σ wd.H (.ref p) [z] v us Q I rv rvs ⟨p, vs, z, rfl, rfl, h1, by rw [← h2.len, sizeLine_eq]; exact hl, g _ .non ⟨_, upd_same, (h2.app (.cons rz .nil)).extF (ExtF.put wd _ nf), by rw [List.length_append, List.length_singleton]; omega⟩ (by rw [RepV])⟩
  | .lst _, [], e => simp [bmO] at e
  | .lst _, _ :: _ :: _, e => simp [bmO] at e
  | .dct _ _, _, e => simp [bmO] at e
  | .ins _ _, _, e => simp [bmO] at e
theorem vs_dropLast {P w K} {wd : Wd} : ∀ {ds : List D} {vs : List V}, RepVs P w K L wd ds vs → RepVs P w K L wd ds.dropLast vs.dropLast
  | [], _, r => by rw [r.nil_inv]; exact .nil
  | [d], _, r => by
    obtain ⟨v, r', rfl, r1, r2⟩ := r.inv
    rw [r2.nil_inv]; exact .nil
  | d :: e :: ds, _, r => by
    obtain ⟨v, r', rfl, r1, r2⟩ := r.inv
    obtain ⟨v2, r'', rfl, _, _⟩ := r2.inv
    simp only [List.dropLast_cons₂]
    exact .cons r1 (vs_dropLast r2)
theorem mto_pop : MtR X "list.pop" (RMP (sy X L) .pop) := fun pins s σ H x xs v us Q I rv rvs ⟨wd, p, ob, ob', ds, d, eH, ex, ro, nf, rds, e, g⟩ => by
  subst eH ex
  match ob, ds, e with
  | .lst l, [], e =>
    simp only [bmO] at e
    cases e1 : l.getLast? with
    | none => rw [e1] at e; cases e
    | some y =>
      rw [e1] at e
      cases e
      obtain ⟨vs, h1, h2, h3⟩ := ro
      have := rds.nil_inv
      subst this
      rw [List.getLast?_eq_getElem?] at e1
      obtain ⟨z, hz, rz⟩ := h2.get e1
      rw [h2.len] at hz
      refine mt_pop pins s σ wd.H (.ref p) [] v us Q I rv rvs ⟨p, vs, z, rfl, rfl, h1, hz, g _ z ⟨_, upd_same, (vs_dropLast h2).extF (ExtF.put wd _ nf), by rw [List.length_dropLast]; omega⟩ (rz.extF (ExtF.put wd _ nf))⟩
  | .lst l, [.int i], e =>
    simp only [bmO] at e
    cases e1 : place l.length i with
    | none => rw [e1] at e; cases e
    | some j =>
      rw [e1] at e
      dsimp only at e
      obtain ⟨y, e2, e⟩ := Option.map_eq_some_iff.mp e
      cases e
      obtain ⟨vs, h1, h2, h3⟩ := ro
      obtain ⟨z, r, rfl, rz, r0⟩ := rds.inv
      have := r0.nil_inv
      subst this
      rw [RepV] at rz
      subst rz
      rw [place_ixN, h2.len] at e1
      obtain ⟨k1, k2, k3, k4⟩ := ixN_seq e1
      obtain ⟨w', hw, rw'⟩ := h2.get e2
      have hlen := h2.len
      have hr : RepVs X.prog X.w X.K L wd (l.eraseIdx j) (vs.eraseIdx j) := by
        rw [List.eraseIdx_eq_take_drop_succ, List.eraseIdx_eq_take_drop_succ]
        exact (h2.take _).app (h2.drop _)
      refine mt_popAt pins s σ wd.H (.ref p) [.int i] v us Q I rv rvs ⟨p, vs, i, j, w', rfl, rfl, h1, ?_, ?_, k1, hw, g _ w' ⟨_, upd_same, hr.extF (ExtF.put wd _ nf), by have := List.length_eraseIdx_le l j; omega⟩ (rw'.extF (ExtF.put wd _ nf))⟩
      · unfold most at h3; omega
      · unfold most at h3; omega
  | .lst _, .non :: _, e => simp [bmO] at e
  | .lst _, .bl _ :: _, e => simp [bmO] at e
  | .lst _, .str _ :: _, e => simp [bmO] at e
  | .lst _, .tup _ :: _, e => simp [bmO] at e
  | .lst _, .lst _ :: _, e => simp [bmO] at e
  | .lst _, .dct _ _ :: _, e => simp [bmO] at e
  | .lst _, .set _ :: _, e => simp [bmO] at e
  | .lst _, .ref _ :: _, e => simp [bmO] at e
  | .lst _, .fn _ :: _, e => simp [bmO] at e
  | .lst _, .cls _ :: _, e => simp [bmO] at e
  | .lst _, .ty _ :: _, e => simp [bmO] at e
  | .lst _, .int _ :: _ :: _, e => simp [bmO] at e
  | .dct _ _, _, e => simp [bmO] at e
  | .ins _ _, _, e => simp [bmO] at e
theorem bmO_d {m : BM} {o o' : MObj} {xs : List D} {d : D} (h : bmO m o xs = some (d, o')) : objD o'.d = some o' := by
  cases o' with
  | lst _ => rfl
  | dct _ _ => rfl
  | ins _ _ =>
    exfalso
    unfold bmO at h
    repeat' split at h
    all_goals first | (cases h; done) | skip
    all_goals
      first
        | (obtain ⟨_, _, e⟩ := Option.map_eq_some_iff.mp h; cases e)
        | skip
/-- x.m(..) of an owned container, a statement -/
theorem rs_obm {w0 : Wd} {st : Stmt} {s : Nat} {m : BM} {es' : Es} (h : PS X st (tDrop (tBS X (fun tag => bmTag m tag = true) (fun _ => RMP (sy X L) m) (tVar s) (RdA (sy X L) call W es')))) (hT : ∀ tag, bmTag m tag = true → tag ≠ 0 ∧ tag ≠ 3) :
    PS X st (RdX (sy X L) w0 W (evS L.g call (.obm s m es'))) := h.impM fun D σ H ⟨en, h, wd, e1, f, p⟩ => by
  subst e1
  rw [evS] at p
  cases es : en[s]? with
  | none => rw [es] at p; exact p.elim
  | some sl =>
    rw [es] at p
    cases sl with
    | o x =>
      dsimp only at p
      cases hb : bmTag m (tagD x h) with
      | false => rw [hb] at p; exact p.elim
      | true =>
        rw [hb, if_pos rfl] at p
        obtain ⟨a, hp, ow⟩ := own_at f.st es
        refine ⟨.ref a, hp, _, hb, tyS_of f.st.ok f.st.rh (.inr ⟨a, rfl, ow⟩) rfl (hT _ hb).1 (hT _ hb).2, en, h, wd, rfl, f.st, (post_exc f.ex p).mono fun ds h1 g vs wd1 x1 ok1 rh1 rv _ => ?_⟩
        have st1 := f.st.ext x1 ok1 rh1
        cases q : (objD x).bind fun o => bmO m o ds with
        | none => rw [q] at g; exact g.elim
        | some r =>
          obtain ⟨d, ob'⟩ := r
          rw [q] at g
          obtain ⟨ob, e1, e2⟩ := Option.bind_eq_some_iff.mp q
          obtain ⟨⟨ob2, e3, ro⟩, nf, nr⟩ := ow.ext x1 f.st.ok
          rw [e1] at e3
          cases e3
          refine ⟨wd1, a, ob, ob', ds, d, rfl, rfl, ro, nf, rv rfl, e2, fun ho z ro' _ => ?_⟩
          obtain ⟨f2, x2⟩ := own_put (f.ext x1 st1) es hp (bmO_d e2) ro'
          exact g σ _ f2 ((x1.f f.st.ok).trans x2)
    | _ => exact p.elim
end
end Mi
end
section
set_option Elab.async false
set_option linter.all false
set_option maxRecDepth 100000
set_option maxHeartbeats 2000000
/-! try: .. except X as n: .. except Y as n: .. (the joint of HandS's ps_try_as and ps_try_many) -/
namespace L2
open PySem PySem.Spec PyProof.Rows
def eAs (i : Nat) (D : Ends) : Ends := { nx := fun σ' H' => D.nx (σ'.set i none) H', rt := D.rt, bk := fun σ' H' => D.bk (σ'.set i none) H', ct := fun σ' H' => D.ct (σ'.set i none) H' }
def wAsM (K : PySem.W.Frag) (i : Nat) (Wout : WX) (D : Ends) : List (Value × (Addr → Value → Option Addr → TS)) → WX
  | [] => Wout
  | (c, ts) :: r => fun cls d σ H => ∃ b, PySem.W.exmOne K cls c = some b ∧ (b = true → ∀ a, H a = none → ts a cls d (eAs i D) (σ.set i (some (.ref a))) H) ∧ (b = false → wAsM K i Wout D r cls d σ H)
inductive HdsAs (X : Cx) (n : Str) : List ExceptHandler → List (Value × (Addr → Value → Option Addr → TS)) → Prop
  | nil : HdsAs X n [] []
  | cons {x : Str} {c : Value} {ts : Addr → Value → Option Addr → TS} {b₀ : Stmt} {suite : List Stmt} {np pos' : Pos} {hds : List ExceptHandler} {l : List (Value × (Addr → Value → Option Addr → TS))} (hc : Names X x c)
      (hsu : ∀ (a : Addr) (oe : Obj) (cls : Value) (d : Option Addr) (pn : List (Addr × Obj)), Zc cls d oe → (∃ vs, oe.data = .fields vs) → PSs (X.suite a ((a, oe) :: pn)) (b₀ :: suite) (ts a cls d)) (r : HdsAs X n hds l) :
      HdsAs X n (.ExceptHandler (some (.Name x np)) (some n) (b₀ :: suite) pos' :: hds) ((c, ts) :: l)
section
variable {X : Cx} {n : Str} {i : Nat} {body : List Stmt} {h₀ : ExceptHandler} {hds : List ExceptHandler} {l : List (Value × (Addr → Value → Option Addr → TS))} {pos : Pos} {tb : WX → TS} {Wout : WX}
theorem ps_try_asM (hs : X.stack = X.env :: X.outer) (hf : X.env.frame = some X.env.locals) (hN : X.N.Nodup) (hi : X.N[i]? = some n) (hln : X.env.kindOf n = some .local) (tk : Takes X Wout)
    (hb : ∀ (W : WX) (pn : List (Addr × Obj)) (xe : Value → Shared → Prop), Takes (X.tr pn xe) W → PassesOwn (model X.prog X.w) X.A X.env xe → PSs (X.tr pn xe) body (tb W))
    (hh : HdsAs X n (h₀ :: hds) l) : PS X (.Try body (h₀ :: hds) [] [] pos) (fun D σ H => tb (wAsM X.K i Wout D l) D σ H) := by
  refine ⟨fun pins s σ H D I h => ?_⟩
  have ok := I.ok
  have hfr : X.A.frames = some (X.env :: X.outer) := by rw [ok.frames, hs]
  have hloc : Loc X.env.scope n := .inl hln
  refine wpAny_Try_except ?_
  refine wpAny_mono ((hb (wAsM X.K i Wout D l) (X.pn ++ pins) (fun e s₁ => wpAny (model X.prog X.w) X.A (noteFrame e X.env) (fun _ s₂ => wpAny (model X.prog X.w) X.A (setFlight e none) (fun _ s₃ =>
    wpAny (model X.prog X.w) X.A (handleBy e X.env (h₀ :: hds)) (SP X pins D) X.xe s₃) X.xe s₂) X.xe s₁) (fun u s' xx => ?_) PassesOwn.looking).run [] s σ H D (I.toTry _) h) (fun f s1 hsp => ?_) (fun e s1 he => he)
  · -- the catch
    obtain ⟨a, B, sI, pins', σ', H', cls, d, rfl, J', nb, up, sky, na, os, ag, w⟩ := xx
    have J : Inv X pins σ' H' sI := J'.ofTry ok
    have sky' : Sky B (X.env :: X.outer) a (Zc cls d) X.env.locals s'.heap := by rw [← hs]; exact sky
    show wpAny (model X.prog X.w) X.A (noteFrame (.ref a) X.env) _ _ _
    refine Sky.land Zc.steady hfr hf sky' fun h3 fl3 up3 => ?_
    have J3 : Inv X pins σ' H' { s' with heap := h3 } := J.landed nb fl3.1 (up.trans up3) os ag
    obtain ⟨oe3, vs3, he3, hz3, hd3⟩ := fl3.there
    have notFr : ∀ {h : Heap} {o : Obj} {vs : Array Value}, h.FunFrames B (X.env :: X.outer) → h.get? a = some o → o.data = .fields vs → a ∉ frs (X.env :: X.outer) := fun {h o vs} ff e dd hm => by
      obtain ⟨_, o', e', hnf⟩ := ff.mem hm
      rw [e] at e'; cases e'
      exact hnf _ dd
    have nfr := notFr fl3.2.2.1 he3 hd3
    have nL : a ≠ X.env.locals := fun z => nfr (List.mem_filterMap.mpr ⟨X.env, List.mem_cons_self, by rw [hf, z]⟩)
    have nF : a ∉ X.fs := fun hm => by
      obtain ⟨e, he, q⟩ := List.mem_filterMap.mp hm
      exact nfr (List.mem_filterMap.mpr ⟨e, List.mem_cons_of_mem _ he, q⟩)
    have S3 := J3.suite he3 hd3 na nL nF
    have go : ∀ {hds' : List ExceptHandler} {l' : List (Value × (Addr → Value → Option Addr → TS))}, HdsAs X n hds' l' → wAsM X.K i Wout D l' cls d σ' H' →
        wpAny (model X.prog X.w) X.A (handleBy (.ref a) X.env hds') (SP X pins D) X.xe { s' with heap := h3 } := by
      intro hds' l' hk
      induction hk with
      | nil =>
        intro w
        refine wpAny_handleBy_nil ?_
        obtain ⟨k1, k2, k3, oe, vs, T, oT, ts', he, hz, hd, h1, hr⟩ := id fl3
        unfold PySem.passOn
        refine wpAny_bind (wpAny_field he hd h1 ?_)
        rw [if_neg (show ¬ ((Value.ref T == Value.none) = true) from by simp)]
        have fin : wpAny (model X.prog X.w) X.A (setFlight (.ref a) X.env.frame) (fun _ s4 => wpAny (model X.prog X.w) X.A (throw (.ref a) : Sem Flow) (SP X pins D) X.xe s4) X.xe { s' with heap := h3 } := by
          rw [hf]
          refine HandSPX.setFlight_upZ fl3 fun h4 hh4 up4 => wpAny_throw (tk _ _ ?_)
          exact ⟨a, B, sI, pins, σ', H', cls, d, rfl, J, nb, (up.trans up3).trans up4, .inr (.inr (by rw [hs]; exact hh4)), na, os, ag, w⟩
        first
          | exact wpAny_bind (wpAny_pure (wpAny_bind fin))
          | exact wpAny_bind fin
      | @cons x c ts b₀ suite np pos' hds2 l2 hc hsu r ih =>
        intro w
        obtain ⟨b, hb1, hyes, hno⟩ := w
        refine wpAny_handleBy_cons (codeAny_handlers_test ?_) (by intro q; cases q)
        have LT : PySem.W.Looks (model X.prog X.w) h3 (typeOf (.ref a)) cls := fun A Q E s k q => wpAny_typeOf_ref (k _ _ he3) (by rw [hz3.1]; exact q)
        have LM := PySem.W.exm_one (M := model X.prog X.w) (J3.kIn) LT hb1
        have test : ∀ {Q : Value → Shared → Prop} {E : Value → Shared → Prop}, Q c { s' with heap := h3 } → wpAny (model X.prog X.w) (X.A.mark (some (.ref a))) (eval (.Name x np) X.env) Q E { s' with heap := h3 } := fun {Q E} q => by
          obtain ⟨hg, hdbg, hm | ⟨hm, hv, hnn⟩⟩ := hc
          · exact ld_glob (X := X.suite a ((a, oe3) :: (X.pn ++ pins))) S3 hg hm q hdbg
          · exact ld_blt (X := X.suite a ((a, oe3) :: (X.pn ++ pins))) S3 hg hm hv q hnn hdbg
        refine test (LM.here ?_)
        cases b with
        | true =>
          refine codeAny_handlers_suite_as ?_
          refine HandSPX.lands_againZ fl3 fun h4 fl4 up4 => ?_
          have J4 : Inv X pins σ' H' { s' with heap := h4 } := J.landed nb fl4.1 ((up.trans up3).trans up4) os ag
          obtain ⟨oe4, vs4, he4, hz4, hd4⟩ := fl4.there
          have S4 := J4.suite he4 hd4 na nL nF
          refine store_ok (X := X.suite a ((a, oe4) :: (X.pn ++ pins))) (v := .ref a) S4 hN hi hloc rfl (fun s5 S5 => ?_) (.inr hln)
          refine wpAny_mono ((hsu a oe4 cls d (X.pn ++ pins) hz4 ⟨_, hd4⟩).run [] s5 _ H' _ S5 (hyes rfl a na)) (fun f s6 hsp => ?_) (fun _ _ z => False.elim z)
          have end_ : ∀ {σ6 : St} {H6 : Hp} {Q : Shared → Prop}, Inv (X.suite a ((a, oe4) :: (X.pn ++ pins))) [] σ6 H6 s6 → (∀ s7, Inv X pins (σ6.set i none) H6 s7 → Q s7) →
              wpAny (model X.prog X.w) X.A (do bindName X.env n .none; unbindBehindTheSuite X.env n pos') (fun _ s7 => Q s7) X.xe s6 := fun {σ6 H6 Q} S6 hq => gone_ok (S6.unsuite ok) hN hi hln hq
          cases f with
          | next =>
            obtain ⟨σ6, H6, S6, q6⟩ := hsp
            exact end_ S6 fun s7 J7 => ⟨_, _, J7, q6⟩
          | brk =>
            obtain ⟨σ6, H6, S6, q6⟩ := hsp
            exact end_ S6 fun s7 J7 => ⟨_, _, J7, q6⟩
          | cont =>
            obtain ⟨σ6, H6, S6, q6⟩ := hsp
            exact end_ S6 fun s7 J7 => ⟨_, _, J7, q6⟩
          | ret u =>
            obtain ⟨v6, σ6, H6, S6, r6, q6⟩ := hsp
            exact end_ S6 fun s7 J7 => ⟨_, _, _, J7, r6, q6⟩
        | false =>
          show wpAny _ X.A (handleBy (.ref a) X.env hds2) _ _ _
          exact ih (hno rfl)
    exact go hh w
  · cases f with
    | next =>
      obtain ⟨σ', H', J', q⟩ := hsp
      exact wpAny_execs_nil ⟨σ', H', J'.ofTry ok, q⟩
    | brk =>
      obtain ⟨σ', H', J', q⟩ := hsp
      exact ⟨σ', H', J'.ofTry ok, q⟩
    | cont =>
      obtain ⟨σ', H', J', q⟩ := hsp
      exact ⟨σ', H', J'.ofTry ok, q⟩
    | ret u =>
      obtain ⟨v, σ', H', J', r, q⟩ := hsp
      exact ⟨v, σ', H', J'.ofTry ok, r, q⟩
end
end L2
end
section
set_option Elab.async false
set_option linter.all false
set_option maxRecDepth 100000
set_option maxHeartbeats 800000
/-! _law_refused(lambda: ..): which error it raises. -/
namespace Mi
open PySem L2 LamX

/-- n.value, n the caught error, in slot i -/
def tVal (X : Cx) (a : Addr) (cls : Value) (d : Option Addr) (i : Nat) : TE := fun σ H Q => (∃ σ0 : L2.St, σ = σ0.set i (some (.ref a))) ∧ ∃ C, cls = .ref C ∧ XfC X.K C ∧ PySem.W.findIn X.K (.ref C) "value" = some none ∧
  ∃ (dd : Addr) (fs : List (Str × V)) (v : V), d = some dd ∧ H dd = some (.xd fs) ∧ fs.lookup ("value" : Str) = some v ∧ Q v H
/-- what the clauses make of an error -/
def EChain (K : PySem.W.Frag) (Q : VK) : List (Value × Str) → XK
  | [] => fun _ _ _ => False
  | (c, w) :: r => fun cls d H' => ∃ b, PySem.W.exmOne K cls c = some b ∧ (b = true → ∃ (C dd : Addr) (fs : List (Str × V)) (v : V), cls = .ref C ∧ XfC K C ∧ PySem.W.findIn K (.ref C) "value" = some none ∧ d = some dd ∧ H' dd = some (.xd fs) ∧ fs.lookup ("value" : Str) = some v ∧ ∀ p, H' p = none → Q (.ref p) (upd H' p (.tup [.str w, v]))) ∧ (b = false → EChain K Q r cls d H')
def TRf (K : PySem.W.Frag) (hs : List (Value × Str)) : (XK → Hp → VK → Prop) → Hp → VK → Prop := fun tl H Q => tl (EChain K Q hs) H fun _ H1 => [V.str (Str.ofString ""), V.non].length ≤ sizeLine ∧ ∀ p, H1 p = none → Q (.ref p) (upd H1 p (.tup [.str (Str.ofString ""), .non]))
/-- the clauses as they are written -/
inductive Hds (X : Cx) (n : Str) (sg : Scope) : List ExceptHandler → List (Value × Str) → Prop
  | nil : Hds X n sg [] []
  | cons {x : Str} {c : Value} {w : Str} {j k : Nat} {p1 p2 p3 p4 p5 p6 p7 : Pos} {hds : List ExceptHandler} {l : List (Value × Str)} (hg : sg.names.lookup x = some .globalImplicit) (hd : (x == ("__debug__" : Str)) = false) (hm : X.mg x = some c) (r : Hds X n sg hds l) :
      Hds X n sg (.ExceptHandler (some (.Name x p1)) (some n) [.Return (some (.Tuple [.Constant (.str w) j p2, .Attribute (.Name n p3) "value" p4] k p5)) p6] p7 :: hds) ((c, w) :: l)
theorem size_two {α : Type} (a b : α) : [a, b].length ≤ sizeLine := by rw [sizeLine_eq]; simp
theorem refused_gives {X : Cx} {Ng : List Str} {x a n q : Str} {sg : Scope} {g : Addr} {cdg : Value} {i j k1 : Nat} {h₀ : ExceptHandler} {hds : List ExceptHandler} {l : List (Value × Str)} {p1 p2 p3 p4 p5 p6 p7 p8 : Pos} (hh : Hds X n sg (h₀ :: hds) l)
    (hN : Ng.Nodup) (hi : Ng[i]? = some n) (hln : sg.names.lookup n = some .local) (hnd : (n == ("__debug__" : Str)) = false) (hnc : (n == ("__classdict__" : Str)) = false) (h0 : ∀ f : Addr, (L2.start Ng [V.ref f])[0]? = some (some (V.ref f))) (hlen : 1 ≤ Ng.length) :
    GivesTo X Ng x sg g cdg [.Try [.Expr (.Call (.Name a p1) [] [] p2) p3] (h₀ :: hds) [] [] p4, .Return (some (.Tuple [.Constant (.str (Str.ofString "")) j p5, .Constant .none k1 p6] 0 p7)) p8] a q (TRf X.K l) := by
  intro f c' s H Q tl act hc h
  let Z : Cx := (cxOf C8.CX0 X.prog X.w X.K X.mg X.base Ng x sg g cdg X.A X.stack s H C8.E0).nox
  let ts : Str → Addr → Value → Option Addr → TS := fun w a cls d => tRet (tTup (tCons (tC (.str w)) (tCons (tVal X a cls d i) tNil)))
  have hok : ∀ {hds : List ExceptHandler} {l : List (Value × Str)}, Hds X n sg hds l → HdsAs Z n hds (l.map fun p => (p.1, ts p.2)) := by
    intro hds l hh
    induction hh with
    | nil => exact .nil
    | @cons x c w j k p1 p2 p3 p4 p5 p6 p7 hds l hg hd hm r ih =>
      refine .cons (ts := ts w) ⟨hg, hd, .inl hm⟩ (fun a oe cls d pn hz hf => ?_) ih
      have hv : PE (Z.suite a ((a, oe) :: pn)) (.Name n p3) (tVar i) := pe_var hi (.inl hln) hnd hnc
      have hx : PE (Z.suite a ((a, oe) :: pn)) (.Attribute (.Name n p3) "value" p4) (tVal X a cls d i) := ⟨fun pins s σ H Q I ⟨⟨σ0, es⟩, C, e, T, hno, dd, fs, v, ed, ea, el, q⟩ => by
        have hlt : i < σ0.length := by
          have h1 := I.len
          rw [es, List.length_set] at h1
          have h2 : Z.N.length = Ng.length := rfl
          have h3 := (List.getElem?_eq_some_iff.mp hi).1
          have h4 : σ0.length = Ng.length := h1
          omega
        exact (pe_xf (X := Z) T hno hz hf hv).run pins s σ H Q I ⟨V.ref a, by rw [es]; exact List.getElem?_set_self hlt, rfl, e, dd, fs, v, ed, ea, el, q⟩⟩
      exact pss_one (ps_ret (pe_tup (pa_cons pe_str (pa_cons hx pa_nil))))
  refine ⟨_, pss_cons (ps_try_asM (X := Z) (i := i) (Wout := fun _ _ _ _ => False) (n := n)
      (tb := fun W D σ H => ∃ Ech : XK, (∀ cls d σ' H', Ech cls d H' → W cls d σ' H') ∧ σ[0]? = some (some (.ref f)) ∧ H c' = some (CodeO c' q) ∧ tl Ech H fun _ H1 => D.nx σ H1)
      rfl rfl hN hi hln LamX.takes0 (fun W pn xe tk _ => ?_) (hok hh)) (pss_one (ps_ret (pe_tup (pa_cons pe_str (pa_cons pe_non pa_nil))))), ?_⟩
  · refine ⟨fun pins s' σ H' D I h' => ?_⟩
    obtain ⟨Ech, hW, h1, h2, h3⟩ := h'
    have hp := act W pn xe Ech p1 p2 tk hW
    have hq := pss_one (ps_expr (pos := p3) hp)
    exact hq.run pins s' σ H' D I ⟨h1, h2, h3⟩
  · refine ⟨EChain X.K Q l, ?_, h0 f, hc, ?_⟩
    · have : ∀ (l : List (Value × Str)) (cls : Value) (d : Option Addr) (σ' : L2.St) (H' : Hp) (D : Ends), D.rt = Q → EChain X.K Q l cls d H' → wAsM X.K i (fun _ _ _ _ => False) D (l.map fun p => (p.1, ts p.2)) cls d σ' H' := by
        intro l
        induction l with
        | nil => intro cls d σ' H' D _ h; exact h
        | cons p l ih =>
          intro cls d σ' H' D hD ⟨b, e, hy, hn⟩
          refine ⟨b, e, fun hb a ha => ?_, fun hb => ih cls d σ' H' D hD (hn hb)⟩
          obtain ⟨C, dd, fs, v, e1, T, hno, e2, e3, e4, hq⟩ := hy hb
          refine ⟨⟨σ', rfl⟩, C, e1, T, hno, dd, fs, v, e2, e3, e4, size_two _ _, fun p hp => ?_⟩
          show D.rt _ _
          rw [hD]
          exact hq p hp
      exact fun cls d σ' H' hc => this l cls d σ' H' _ rfl hc
    · exact h
end Mi
end
section
set_option Elab.async false
set_option linter.all false
set_option maxRecDepth 100000
set_option maxHeartbeats 800000
/-! `_law_refused(lambda: e)`. -/
namespace Mi
open PySem L2 LamX
/-- what the reading asks of the clauses -/
structure RfOk (K : PySem.W.Frag) (L : Ln) (hs : List (Nat × List Nat)) : Prop where
  ok : ∀ c, (∃ p ∈ hs, L.g.sub c p.1 = true) → XfC K (L.cad c) ∧ PySem.W.findIn K (.ref (L.cad c)) "value" = some none ∧ ∀ p ∈ hs, PySem.W.exmOne K (.ref (L.cad c)) (.ref (L.cad p.1)) = some (L.g.sub c p.1)
def hlOf (L : Ln) (hs : List (Nat × List Nat)) : List (Value × Str) := hs.map fun p => (.ref (L.cad p.1), strV p.2)
section
variable {X : Cx} {L : Ln} {call : CallT} {W : WX}
/-- the tables have moved on -/
theorem ext_tbl {wd : Wd} {H1 : Hp} (ok : WOk wd) (e : ExtN wd.H H1) (t : Tabs wd.T H1) : Ext wd { wd with H := H1 } ∧ WOk { wd with H := H1 } := by
  have k : ∀ x, Nt (wd.H x) → H1 x = wd.H x := fun x ⟨u, h1, h2⟩ => by rw [h1]; exact e x u h1 h2
  have kn : ∀ x, Nt (wd.H x) → Nt (H1 x) := fun x h => by rw [k x h]; exact h
  exact ⟨⟨Nat.le_refl _, fun _ _ => rfl, fun n h1 h2 => absurd (Nat.lt_of_lt_of_le h2 h1) (Nat.lt_irrefl _), fun _ h => h, fun _ h => .inl h, fun x h _ => k x h, rfl, kn⟩,
    ⟨fun a f => ⟨kn a (ok.fz a f).1, (ok.fz a f).2⟩, fun n hn => kn _ (ok.hp n hn), ok.inj, t⟩⟩
theorem chain_of {Q : VK} {c : Nat} {dx : Addr} {v : V} {wd : Wd} {w : List Nat} : ∀ {hs : List (Nat × List Nat)}, handler hs (L.g.sub c) = some w →
    (XfC X.K (L.cad c) ∧ PySem.W.findIn X.K (.ref (L.cad c)) "value" = some none ∧ ∀ p ∈ hs, PySem.W.exmOne X.K (.ref (L.cad c)) (.ref (L.cad p.1)) = some (L.g.sub c p.1)) →
    wd.H dx = some (.xd [(("value" : Str), v)]) → (∀ p, wd.H p = none → Q (.ref p) (upd wd.H p (.tup [.str (strV w), v]))) → EChain X.K Q (hlOf L hs) (.ref (L.cad c)) (some dx) wd.H
  | [], h, _, _, _ => by cases h
  | (c', w') :: r, h, ⟨f1, f2, f3⟩, hd, q => by
    rw [handler] at h
    refine ⟨L.g.sub c c', f3 _ List.mem_cons_self, fun hb => ?_, fun hb => ?_⟩
    · rw [if_pos hb] at h
      cases h
      exact ⟨_, dx, _, v, rfl, f1, f2, rfl, hd, rfl, q⟩
    · rw [if_neg (by rw [hb]; simp)] at h
      exact chain_of h ⟨f1, f2, fun p hp => f3 p (List.mem_cons_of_mem _ hp)⟩ hd q
theorem handler_some {w : List Nat} {p : Nat → Bool} : ∀ {hs : List (Nat × List Nat)}, handler hs p = some w → ∃ x ∈ hs, p x.1 = true
  | [], h => by cases h
  | (c, w') :: r, h => by
    rw [handler] at h
    by_cases z : p c = true
    · exact ⟨_, List.mem_cons_self, z⟩
    · rw [if_neg z] at h
      obtain ⟨x, h1, h2⟩ := handler_some h
      exact ⟨x, List.mem_cons_of_mem _ h1, h2⟩
/-- a pair that is made and kept -/
theorem good_pair {wd wd1 : Wd} {Q : VK} {own : Bool} {a b : D} {x y : V} {h : AH} (g : Good (sy X L) wd own Q (.tup [a, b]) h) (e : Ext wd wd1) (ok : WOk wd1) (rh : RepH X.prog X.w X.K L wd1 h) (ra : RepV X.prog X.w X.K L wd1 a x) (rb : RepV X.prog X.w X.K L wd1 b y) (ho : own = false)
    {p : Addr} (hp : wd1.H p = none) : Q (.ref p) (upd wd1.H p (.tup [x, y])) := by
  subst ho
  have e2 := Ext.lay wd1 (o := .tup [x, y]) hp
  have ok2 := ok.lay (o := .tup [x, y]) hp
  have fr := lay_free ok hp
  have hn : ¬ Nt (wd.H p) := fun z => (e.live p z).ne hp
  refine g (.ref p) ((wd1.lay p (.tup [x, y])).frz p) ((e.trans e2).frz hn) (ok2.frz (nt_upd (fun _ z => nomatch z)) fr.2) ((rh.lay ok hp).frz p) ?_
  simp only [Bool.false_eq_true, if_false]
  rw [RepV]
  exact ⟨p, _, rfl, .inl ⟨.inr rfl, .inl upd_same⟩, ((RepVs.cons ra (RepVs.cons rb RepVs.nil)).ext e2 ok).sub (Sub.frz _ p), by unfold most; simp⟩
/-- the reading -/
theorem rf_read {f : Nat} {hs : List (Nat × List Nat)} {e' : E} {σ : L2.St} {H : Hp} {Q : VK} (hf : L.g.rfs[f]? = some hs) (ok : RfOk X.K L hs) (h : RdE (sy X L) call W (.rf f e') σ H Q) :
    tLam L.T (TRf X.K (hlOf L hs)) (fun E => RdE (sy X L) call (fun c d _ H => E c d H) e') σ H Q := by
  obtain ⟨en, h, wd, e1, st, p⟩ := h
  subst e1
  refine ⟨by rw [← st.re.tb]; exact st.ok.tabs, fun H1 eN T1 => ?_⟩
  rw [← st.re.tb] at T1
  obtain ⟨e1, ok1⟩ := ext_tbl st.ok eN T1
  have rh1 : RepH X.prog X.w X.K L { wd with H := H1 } h := st.rh.ext e1 st.ok rfl fun n hn => e1.keep _ (st.ok.hp n hn) |> fun z => by
    obtain ⟨u, h1, h2⟩ := st.ok.hp n hn
    rw [h1]
    exact eN _ u h1 h2
  refine ⟨en, h, { wd with H := H1 }, rfl, st.ext e1 ok1 rh1, ?_⟩
  rw [evE, show (sy X L).L.g.rfs[f]? = some hs from hf] at p
  show Post (sy X L) _ _ _ (evE L.g call e' en h)
  have p : Post (sy X L) wd (fun c d => W c d σ) (Good (sy X L) wd false Q) (match evE L.g call e' en h with
      | .ok _ h => .ok (.tup [.str [], .non]) h
      | .exc c d h => (match handler hs (L.g.sub c) with
        | some w => .ok (.tup [.str w, d]) h
        | none => .fail)
      | .fail => .fail) := p
  cases q : evE L.g call e' en h with
  | fail => rw [q] at p; exact p
  | ok d h1 =>
    rw [q] at p
    intro v wd1 x1 okk rhh _
    exact ⟨size_two _ _, fun a ha => good_pair (h := h1) (x := V.str (Str.ofString "")) (y := V.non) p (e1.trans x1) okk rhh (by rw [RepV]; rfl) (by rw [RepV]) rfl ha⟩
  | exc c d h1 =>
    rw [q] at p
    have p : Post (sy X L) wd (fun c d => W c d σ) (Good (sy X L) wd false Q) (match handler hs (L.g.sub c) with
        | some w => .ok (.tup [.str w, d]) h1
        | none => .fail) := p
    cases q2 : handler hs (L.g.sub c) with
    | none => rw [q2] at p; exact p.elim
    | some w =>
      rw [q2] at p
      intro wd1 dx v x1 okk rhh r hd
      exact chain_of q2 (ok.ok c (handler_some q2)) hd fun a ha => good_pair (h := h1) (x := V.str (strV w)) (y := v) p (e1.trans x1) okk rhh (by rw [RepV]) r rfl ha
end
end Mi
end
section
set_option Elab.async false
set_option linter.all false
set_option maxRecDepth 100000
set_option maxHeartbeats 800000
/-! x in c, x not in c. -/
namespace Mi
open PySem L2 PyProof.Rows
section
variable {X : Cx} {L : Ln} {wd : Wd} {h : AH} {dx dy d : D} {x y : V}
/-- the data that the items of a list or a tuple are -/
theorem dp_seq {xs : List D} (rh : RepH X.prog X.w X.K L wd h) (r : RepP X.prog X.w X.K L wd dx x) (e : asS dx h = some xs) (hp : D.plains xs = true) : Dp X.K wd.H x (.list (pds xs)) ∨ Dp X.K wd.H x (.tuple (pds xs)) := by
  cases dx with
  | lst ys => cases e; exact .inl (dp_ofP r (by rw [D.plain]; exact hp))
  | tup ys => cases e; exact .inr (dp_ofP r (by rw [D.plain]; exact hp))
  | ref n =>
    simp only [asS, asL] at e
    cases q : h[n]? with
    | none => rw [q] at e; cases e
    | some o =>
      rw [q] at e
      cases o with
      | lst ys =>
        cases e
        obtain ⟨hn, rfl⟩ := r.ref
        obtain ⟨vs, r1, r2, _⟩ := rh.2 n _ q
        exact .inl (.lst (xs := vs) (.inl (.inl r1)) (dps_of r2 hp))
      | dct _ _ => cases e
      | ins _ _ => cases e
  | _ => cases e
theorem any_eqv : ∀ (xs : List D) (z : D), D.plains xs = true → z.plain = true → ((pds xs).any fun y => PyData.eqv y (pd z)) = xs.any fun y => y.eqv z
  | [], z, _, _ => rfl
  | a :: xs, z, h, hz => by
    rw [D.plains, Bool.and_eq_true] at h
    rw [pds, List.any_cons, List.any_cons, any_eqv xs z h.2 hz, eqv_pd a z h.1 hz]
theorem in_data {Q : Value → Shared → Prop} {E : Value → Shared → Prop} {pins : List (Addr × Obj)} {σ : L2.St} {s : Shared} {v u : Value} {xs : List D} (neg : Bool) (hu : X.A.units + 65 < cLine) (I : Inv X pins σ wd.H s) (rh : RepH X.prog X.w X.K L wd h)
    (rx : RepP X.prog X.w X.K L wd dx x) (ry : RepP X.prog X.w X.K L wd dy y) (rv : RelV x v) (ru : RelV y u) (e : asS dy h = some xs) (h1 : dx.cmpable = true) (h2 : (D.lst xs).cmpable = true)
    (k : Q (.bool (if neg then !xs.any fun z => z.eqv dx else xs.any fun z => z.eqv dx)) s) : wpAny (model X.prog X.w) X.A (compareOp (if neg then .NotIn else .In) v u) Q E s := by
  obtain ⟨p1, _⟩ := cmpable_of h1
  obtain ⟨p2, _⟩ := cmpable_of h2
  have p2 : D.plains xs = true := by rw [D.plain] at p2; exact p2
  have sd := shaped_of h1
  have se := shaped_of h2
  have se : SeqAt.shaped (.list (pds xs)) = true := se
  obtain ⟨as, r1⟩ := Dp.reads I _ x v (dp_ofP rx p1) rv
  rw [← any_eqv xs dx p2 p1] at k
  have cl : PyData.canLayAll0 (pds xs) = true := SeqAt.canLay_of_shaped se
  rcases dp_seq rh ry e p2 with hd | hd
  · obtain ⟨bs, r2⟩ := Dp.reads I _ y u hd ru
    cases neg
    · exact SeqAt.in_list_reads r2 r1 cl (SeqAt.canLay_of_shaped sd) (room_in_shaped sd hu) k
    · exact SeqAt.notIn_list_reads r2 r1 cl (SeqAt.canLay_of_shaped sd) (room_in_shaped sd hu) k
  · obtain ⟨bs, r2⟩ := Dp.reads I _ y u hd ru
    cases neg
    · exact SeqAt.in_tuple_reads r2 r1 cl (SeqAt.canLay_of_shaped sd) (room_in_shaped sd hu) k
    · exact SeqAt.notIn_tuple_reads r2 r1 cl (SeqAt.canLay_of_shaped sd) (room_in_shaped sd hu) k
def cIn (neg : Bool) : Cmp := if neg then .nin else .in
def oIn (neg : Bool) : CmpOp := if neg then .NotIn else .In
theorem cmpD_in (neg : Bool) (x y : D) (h : AH) : cmpD (cIn neg) x y h = match asD y h with
    | some (ks, _) => if kin ks x then some (.bl (if neg then !decide (x ∈ ks) else decide (x ∈ ks))) else none
    | none => (match y, x with
      | .str s, .str [a] => some (.bl (if neg then !decide (a ∈ s) else decide (a ∈ s)))
      | _, _ => (match asS y h with
        | some xs => if x.cmpable ∧ (D.lst xs).cmpable then some (.bl (if neg then !xs.any fun z => z.eqv x else xs.any fun z => z.eqv x)) else none
        | none => none)) := by cases neg <;> rfl
theorem op_in_rep (neg : Bool) (hu : X.A.units + 65 < cLine) : OpR X (compareOp (oIn neg)) (RV2 (sy X L) fun x y h => cmpD (cIn neg) x y h) := by
  rintro pins s σ H x y v u Q I rx ry ⟨h, wd, dx, dy, eH, ok, rh, r1, r2, d, e, g⟩
  subst eH
  have hn := line63
  have fin : ∀ (b : Bool) (s' : Shared), d = .bl b → Inv X pins σ wd.H s' → EP X pins σ Q (.bool b) s' := fun b s' eb I' => ⟨.bl b, wd.H, I', rfl, good_at g ok rh (by rw [eb, RepV])⟩
  have e : cmpD (cIn neg) dx dy h = some d := e
  rw [cmpD_in] at e
  cases e1 : asD dy h with
  | some p =>
    obtain ⟨ks, vs⟩ := p
    rw [e1] at e
    dsimp only at e
    by_cases hk : kin ks dx = true
    · rw [if_pos hk] at e
      have hk1 := (kin_key hk).1
      have rx' := flat_repV hk1 r1
      obtain ⟨a, kk, vv, rfl, da, rk, rvs, nd, ok'⟩ := dct_at rh r2 e1
      obtain rfl : u = Value.ref a := ry
      exact dict_has neg (by omega) I (ask da rk rvs hk rx') nd ok' hk1 rx' rx fun s' I' => fin _ s' (Option.some.inj e).symm I'
    · rw [if_neg hk] at e; cases e
  | none =>
    rw [e1] at e
    dsimp only at e
    have sq : (match asS dy h with
        | some xs => if dx.cmpable ∧ (D.lst xs).cmpable then some (D.bl (if neg then !xs.any fun z => z.eqv dx else xs.any fun z => z.eqv dx)) else none
        | none => none) = some d → wpAny (model X.prog X.w) X.A (compareOp (oIn neg) v u) (EP X pins σ Q) X.xe s := fun e => by
      cases e2 : asS dy h with
      | none => rw [e2] at e; cases e
      | some xs =>
        rw [e2] at e
        dsimp only at e
        by_cases hc : dx.cmpable = true ∧ (D.lst xs).cmpable = true
        · rw [if_pos hc] at e
          exact in_data neg hu I rh r1 r2 rx ry e2 hc.1 hc.2 (fin _ s (Option.some.inj e).symm I)
        · rw [if_neg hc] at e; cases e
    split at e
    · rename_i sx c _
      cases str_at r1
      cases str_at r2
      cases neg
      · exact op_in_sign pins s σ wd.H _ _ v u Q I rx ry ⟨c, strV sx, rfl, rfl, good_at g ok rh (by rw [← Option.some.inj e, RepV]; rfl)⟩
      · exact op_notIn_sign pins s σ wd.H _ _ v u Q I rx ry ⟨c, strV sx, rfl, rfl, good_at g ok rh (by rw [← Option.some.inj e, RepV]; rfl)⟩
    · exact sq e
end
end Mi
end
section
set_option Elab.async false
set_option linter.all false
set_option maxRecDepth 100000
set_option maxHeartbeats 800000
/-! fresh lists: xs + ys, xs * n, list(xs), sorted(xs). -/
namespace Mi
open PySem L2 PyProof.Rows SrtO Builtin
section
variable {X : Cx} {L : Ln} {call : CallT} {W : WX}
def rCatL (K : PySem.W.Frag) : R2 := fun x y H Q => ∃ l b xs zs, x = .ref l ∧ y = .ref b ∧ SqL K H l xs ∧ SqL K H b zs ∧ xs.length + zs.length ≤ sizeLine ∧ ∀ p, H p = none → Q (.ref p) (upd H p (.lst (xs ++ zs)))
theorem op_catL : OpR X (binaryOp .Add) (rCatL X.K) := by
  intro pins s σ H x y v u Q I rx ry h
  obtain ⟨l, b, xs, zs, rfl, rfl, hH, hB, hz, q⟩ := h
  cases rx
  cases ry
  obtain ⟨its, r, ⟨⟨cls, dd, data, sl⟩, n, ho, hc, hdd, hd⟩, hl⟩ := I.list hH
  obtain ⟨its2, r2, ⟨⟨cls2, dd2, data2, sl2⟩, n2, ho2, hc2, hdd2, hd2⟩, hl2⟩ := I.list hB
  simp only at hc hd hc2 hd2
  subst hc hd hc2 hd2
  have e1 := r.length
  have e2 := r2.length
  refine concat_meets ⟨_, ho, rfl⟩ ⟨_, ho2, rfl⟩ noFill_list_add seq_list_add PySem.F.slot_list_add PySem.F.entry_list_add (PySem.F.args_list_add_2 _ _) (list_addW l b its.toArray its2.toArray n n2 dd dd2 sl sl2 (by rw [List.size_toArray, List.size_toArray]; omega)) ⟨ho, ho2, ?_⟩
  have ea : its.toArray ++ its2.toArray = (its ++ its2).toArray := by simp
  rw [ea]
  exact ⟨.ref _, _, I.lnew (t' := s.toks) (r.append r2) (by rw [List.length_append]; omega), rfl, q _ I.fresh⟩
def rRepL (K : PySem.W.Frag) : R2 := fun x y H Q => ∃ l k xs, x = .ref l ∧ y = .int k ∧ SqL K H l xs ∧ -(2 ^ 63) ≤ k ∧ k < 2 ^ 63 ∧ xs.length * k.toNat ≤ sizeLine ∧
  ∀ p, H p = none → Q (.ref p) (upd H p (.lst (List.replicate k.toNat xs).flatten))
theorem op_repL : OpR X (binaryOp .Mult) (rRepL X.K) := by
  intro pins s σ H x y v u Q I rx ry h
  obtain ⟨l, k, xs, rfl, rfl, hH, h1, h2, hz, q⟩ := h
  cases rx
  obtain ⟨t, rfl⟩ := ry
  obtain ⟨its, r, ⟨⟨cls, d, data, sl⟩, n, e, hc, hdd, hd⟩, hl0⟩ := I.list hH
  simp only at hc hd
  subst hc hd
  have hl := r.length
  have hlen : its.toArray.size * k.toNat ≤ sizeLine := by rw [List.size_toArray, ← hl]; exact hz
  have hcap : ¬ its.toArray.size * k.toNat > (2 ^ 63 - 1) / 8 := by
    have : (sizeLine : Nat) ≤ (2 ^ 63 - 1) / 8 := by decide
    omega
  have hfit : ¬ (!Builtin.List.listFitsIndex k) = true := by
    rw [fitsIndex_both h1 h2]
    exact Bool.false_ne_true
  have hlong : ¬ Builtin.List.listTooLong (its.toArray.size * k.toNat) = true := by
    rw [notLongL hlen]
    exact Bool.false_ne_true
  have hnew : List.foldl (fun x1 x2 => x1 ++ x2) #[] (List.replicate (if its.toArray.isEmpty = true then 0 else k.toNat) its.toArray) = (List.replicate k.toNat its).flatten.toArray := by
    have f0 : ∀ m : Nat, List.foldl (fun x1 x2 => x1 ++ x2) #[] (List.replicate m its.toArray) = (List.replicate m its).flatten.toArray := fun m => by
      have := foldl_rep its m []
      rw [List.nil_append] at this
      exact this
    rw [f0]
    cases its with
    | nil => simp
    | cons a r' => rw [if_neg (by simp)]
  refine wpAny_binaryOp_repeat_ref (T := "list") (U := "int") (by decide) ⟨_, e, rfl⟩ (fun s' => typeIs_int s' k t) noFill_list_mul F.fills_int_mul F.slot_int_rmul repeat_list F.slot_int_index.lookup
    (call_meets F.slot_int_rmul (typeIs_int s k t) F.entry_int_rmul (F.args_int_rmul_2 _ _) (lm_int_rmul_list_any k t l its.toArray n d sl)
      ⟨e, rfl, ⟨_, e, rfl⟩, call_meets F.slot_list_mul ⟨_, e, rfl⟩ F.entry_list_mul (F.args_list_mul_2 _ _) (lm_list_mul_any l its.toArray n d sl k t hfit hcap hlong) ⟨e, ?_⟩⟩)
  rw [hnew]
  exact ⟨.ref _, _, I.lnew (t' := s.toks) (r.rep k.toNat) (by rw [PyProof.Rows.lm_len_rep_flat, Nat.mul_comm]; exact hz), rfl, q _ I.fresh⟩
end
section
variable {prog : Program} {w : World} {A : Around} {E : Value → Shared → Prop} {s : Shared}
/-- the items of a list or a tuple, laid into a new list -/
theorem collect_any {l : Addr} {T : String} {o : Obj} {n : Nat} {vs : List Value} {Q : List Value → Shared → Prop} (hT : T = "list" ∨ T = "tuple") (ho : s.heap.get? l = some o) (hc : o.cls = .type T) (hd : o.data = .seq vs.toArray n)
    (h : Q vs { s with heap := (s.heap.push (seqObj "list" #[] 0)).update s.heap.objs.size (Obj.mapSeq (· ++ vs.toArray)) }) (hsz : vs.length ≤ sizeLine) :
    wpAny (model prog w) A (collect (.ref l)) Q E s := by
  unfold collect
  refine wpAny_bind (wpAny_runValue (codeAny_builtin entry_proto_collect' ?_))
  show wpAny _ _ (do again (.builtin "list.__iadd__" ⟨[← newList [], .ref l], []⟩)) _ _ s
  refine wpAny_bind (wpAny_newList (wpAny_pure ⟨Code.quiet_builtin _ (by decide +kernel), codeAny_builtin entry_list_iadd' ?_⟩))
  show wpAny _ _ (Builtin.List.listExtendWith (.ref s.heap.objs.size) (.ref l) (.ref s.heap.objs.size)) _ _ { s with heap := s.heap.push (seqObj "list" #[] 0) }
  unfold Builtin.List.listExtendWith
  have ho' : (s.heap.push (seqObj "list" #[] 0)).get? l = some o := Heap.get?_push_of_some _ ho
  refine wpAny_bind (wpAny_typeOf (T := T) ⟨o, ho', hc⟩ ?_)
  have t1 : (Value.type "list" == Value.type "list") = true := by rfl
  have t2 : (Value.type "tuple" == Value.type "tuple") = true := by rfl
  rw [if_pos (by rcases hT with rfl | rfl; (rw [t1]; simp); (rw [t2]; simp))]
  refine wpAny_bind (listItems_at ho' hd ?_)
  refine wpAny_bind (listItems_at (xs := #[]) (n := 0) (Heap.get?_push_size _ rfl) rfl ?_)
  rw [if_neg (by simp)]
  refine wpAny_bind (listUpdate_at (xs := #[]) (n := 0) (Heap.get?_push_size _ rfl) rfl ?_ (Nat.zero_le _) (by show (#[] ++ vs.toArray).size ≤ sizeLine + 1; simp only [Array.size_append, List.size_toArray, List.length_nil]; omega))
  refine wpAny_pure ?_
  show wpAny (model prog w) A (do
      let o ← load s.heap.objs.size
      match o.data with
      | .seq xs _ => pure xs.toList
      | _ => unsupported "internal:collect") Q E { s with heap := (s.heap.push (seqObj "list" #[] 0)).update s.heap.objs.size (Obj.mapSeq (· ++ vs.toArray)) }
  refine wpAny_bind (wpAny_load (get?_update_seq (Heap.get?_push_size _ rfl) _) ?_)
  show wpAny _ _ (pure ((#[] : Array Value) ++ vs.toArray).toList) Q E _
  rw [show ((#[] : Array Value) ++ vs.toArray).toList = vs by simp]
  exact wpAny_pure h
/-- sorted of a list or a tuple -/
theorem sorted_any {l : Addr} {T : String} {o : Obj} {n : Nat} {vs : List Value} {ltv : Value → Value → Bool} {Q : Value → Shared → Prop} (O : SrtO.Swo ltv) (hT : T = "list" ∨ T = "tuple") (ho : s.heap.get? l = some o) (hc : o.cls = .type T) (hd : o.data = .seq vs.toArray n) (hz : vs.length ≤ sizeLine)
    (hS : 2 ≤ vs.length → ∀ (h₁ : Heap) (a : Addr), h₁.get? a = some (seqObj "list" vs.toArray 0) → (∀ b o, s.heap.get? b = some o → b ≠ a ∧ h₁.get? b = some o) → SrtO.SortableO prog w A.in1.in1 { s with heap := h₁ } a vs ltv)
    (h : ∀ out : List Value, SrtO.Srtd ltv out → SrtO.Stb ltv out vs → Q (.ref (s.heap.objs.size + 1)) { s with heap := sortedAll s.heap vs out.toArray }) :
    wpAny (model prog w) A (PySem.call (.builtin "sorted") [.ref l]) Q E s := by
  refine Calls.call_function_entry kind_sorted plain_sorted entry_sorted (args_sorted1 _) ?_
  unfold Builtin.«sorted»
  refine wpAny_bind (m := checkCount "sorted" 1 1 _) (wpAny_pure ?_)
  refine wpAny_bind (collect_any hT ho hc hd ?_ hz)
  refine wpAny_bind (wpAny_newList ?_ hz)
  have hsz : ((s.heap.push (seqObj "list" #[] 0)).update s.heap.objs.size (Obj.mapSeq (· ++ vs.toArray))).objs.size = s.heap.objs.size + 1 := by
    rw [Heap.size_update, size_push']
  have hoL : (((s.heap.push (seqObj "list" #[] 0)).update s.heap.objs.size (Obj.mapSeq (· ++ vs.toArray))).push (seqObj "list" vs.toArray 0)).get? (s.heap.objs.size + 1) = some (seqObj "list" vs.toArray 0) := by
    rw [← hsz]; exact Heap.get?_push_size _ rfl
  have keep : ∀ b o, s.heap.get? b = some o → b ≠ s.heap.objs.size + 1 ∧ (((s.heap.push (seqObj "list" #[] 0)).update s.heap.objs.size (Obj.mapSeq (· ++ vs.toArray))).push (seqObj "list" vs.toArray 0)).get? b = some o := fun b o q => by
    have hlt : b < s.heap.objs.size := Heap.lt_size q
    refine ⟨Nat.ne_of_lt (Nat.lt_succ_of_lt hlt), Heap.get?_push_of_some _ ?_⟩
    rw [Heap.get?_update_ne _ _ _ _ (Nat.ne_of_lt hlt)]
    exact Heap.get?_push_of_some _ q
  show wpAny _ _ _ _ _ { s with heap := ((s.heap.push (seqObj "list" #[] 0)).update s.heap.objs.size (Obj.mapSeq (· ++ vs.toArray))).push (seqObj "list" vs.toArray 0) }
  rw [hsz]
  refine wpAny_bind (wpAny_holding (wpAny_call_entry slot_list_sort ⟨_, hoL, rfl⟩ entry_list_sort (SrtO.list_sort_ord O hoL hz (fun h2 => hS h2 _ _ hoL keep) fun out hs hb => ⟨_, rfl, ?_⟩) (args_list_sort _)))
  exact wpAny_pure ⟨_, rfl, h out hs hb⟩
end
/-! the rules -/
section
variable {X : Cx} {L : Ln} {call : CallT} {W : WX}
theorem sortI_perm : ∀ xs : List Int, (sortI xs).Perm xs
  | [] => .nil
  | x :: xs => by
    have h1 : ∀ ys : List Int, (insI x ys).Perm (x :: ys) := fun ys => by
      induction ys with
      | nil => exact .refl _
      | cons y ys ih =>
        rw [insI]
        split
        · exact .refl _
        · exact (ih.cons y).trans (.swap _ _ _)
    rw [sortI]
    exact (h1 _).trans ((sortI_perm xs).cons x)
theorem sortI_srt : ∀ xs : List Int, (sortI xs).Pairwise (· ≤ ·)
  | [] => .nil
  | x :: xs => by
    have h1 : ∀ ys : List Int, ys.Pairwise (· ≤ ·) → (insI x ys).Pairwise (· ≤ ·) ∧ ∀ z ∈ insI x ys, z = x ∨ z ∈ ys := fun ys h => by
      induction ys with
      | nil => exact ⟨List.pairwise_singleton _ _, fun z hz => .inl (by simpa [insI] using hz)⟩
      | cons y ys ih =>
        rw [insI]
        have hy := List.pairwise_cons.mp h
        obtain ⟨i1, i2⟩ := ih hy.2
        split
        · rename_i hxy
          refine ⟨List.pairwise_cons.mpr ⟨fun z hz => ?_, h⟩, fun z hz => by simpa using hz⟩
          rcases List.mem_cons.mp hz with rfl | hz
          · exact hxy
          · exact Int.le_trans hxy (hy.1 z hz)
        · rename_i hxy
          refine ⟨List.pairwise_cons.mpr ⟨fun z hz => ?_, i1⟩, fun z hz => ?_⟩
          · rcases i2 z hz with rfl | hz
            · omega
            · exact hy.1 z hz
          · rcases List.mem_cons.mp hz with rfl | hz
            · exact .inr List.mem_cons_self
            · rcases i2 z hz with h | h
              · exact .inl h
              · exact .inr (List.mem_cons_of_mem _ h)
    rw [sortI]
    exact (h1 _ (sortI_srt xs)).1
theorem sortI_eq {xs ys : List Int} (h1 : ys.Perm xs) (h2 : ys.Pairwise (· ≤ ·)) : ys = sortI xs :=
  List.Perm.eq_of_pairwise (le := (· ≤ ·)) (fun a b _ _ x y => by omega) h2 (sortI_srt xs) (h1.trans (sortI_perm xs).symm)
theorem rep_ints {P w K} {wd : Wd} : ∀ {xs : List D} {ns : List Int} {vs : List V}, allI xs = some ns → RepVs P w K L wd xs vs → vs = ns.map V.int
  | [], ns, vs, e, r => by cases e; rw [r.nil_inv]; rfl
  | d :: xs, ns, vs, e, r => by
    obtain ⟨v, vr, rfl, r1, r2⟩ := r.inv
    cases d with
    | int i =>
      rw [allI] at e
      cases q : allI xs with
      | none => rw [q] at e; cases e
      | some ms =>
        rw [q] at e
        cases e
        rw [RepV] at r1
        rw [r1, rep_ints q r2]; rfl
    | _ => cases e
theorem reps_of_ints {P w K} {wd : Wd} : ∀ ns : List Int, RepVs P w K L wd (ns.map D.int) (ns.map V.int)
  | [] => RepVs.nil
  | n :: ns => RepVs.cons (by rw [RepV]) (reps_of_ints ns)
theorem allI_len : ∀ {xs : List D} {ns : List Int}, allI xs = some ns → ns.length = xs.length
  | [], ns, e => by cases e; rfl
  | d :: xs, ns, e => by
    cases d with
    | int i =>
      rw [allI] at e
      cases q : allI xs with
      | none => rw [q] at e; cases e
      | some ms => rw [q] at e; cases e; simp [allI_len q]
    | _ => cases e
def rSortedA (K : PySem.W.Frag) : List V → Hp → VK → Prop := fun vs H Q => ∃ (a : Addr) (ns : List Int), vs = [V.ref a] ∧ (SqL K H a (ns.map V.int) ∨ SqT K H a (ns.map V.int)) ∧ ∀ p : Addr, H p = none → Q (.ref p) (upd H p (.lst ((sortI ns).map V.int)))
theorem cr_sortedA : CallR X (.builtin "sorted") (rSortedA X.K) := by
  intro pins s σ H vs us Q I r h
  obtain ⟨a, ns, rfl, hs, q⟩ := h
  rw [Vals.ref1 r]
  have fin : ∀ (its : List Value) (T : String) (o : PySem.Obj) (n : Nat), (T = "list" ∨ T = "tuple") → s.heap.get? a = some o → o.cls = .type T → o.data = .seq its.toArray n → Vals (ns.map V.int) its → (ns.map V.int).length ≤ sizeLine →
      wpAny (model X.prog X.w) X.A (PySem.call (.builtin "sorted") [.ref a]) (EP X pins σ Q) X.xe s := fun its T o n hT ho hc hd rv hz => by
    have hi := rv.ints
    refine sorted_any SrtO.swo_int hT ho hc hd (by rw [← rv.length]; exact hz) (fun h2 h₁ a' _ _ => SrtO.ints_sortable hi h2) fun out h1 h2 => ?_
    obtain ⟨k1, k2, k3⟩ := SrtO.ints_out hi h1 h2
    obtain ⟨ep, he'⟩ := PyProof.Rows.sortedAll_at s.heap its out.toArray
    have hlen : ((out.map SrtO.iv).map V.int).length ≤ sizeLine := by
      rw [List.length_map, k2.length_eq]
      rw [List.length_map] at hz
      exact hz
    have q := q (s.heap.objs.size + 1) (I.hok.fresh (Nat.le_succ _))
    rw [← sortI_eq k2 k3] at q
    exact ⟨.ref _, upd H (s.heap.objs.size + 1) (.lst ((out.map SrtO.iv).map V.int)), I.laid (t' := s.toks) (fun _ _ => PyProof.Rows.sortedAll_old) (Nat.le_succ _) ⟨hlen, out, ep, vals_of_ints k1, he'⟩, rfl, q⟩
  rcases hs with hs | hs
  · obtain ⟨its, rv, ⟨o, n, ho, hc, _, hd⟩, hz⟩ := I.list hs
    exact fin its _ o n (.inl rfl) ho hc hd rv hz
  · obtain ⟨its, rv, ⟨o, ho, hc, n, hd⟩, hz⟩ := I.tuple hs
    exact fin its _ o n (.inr rfl) ho hc hd rv hz
end
end Mi
end
section
set_option Elab.async false
set_option linter.all false
set_option maxRecDepth 100000
set_option maxHeartbeats 800000
/-! fresh containers: the rules. -/
namespace Mi
open PySem L2 PyProof.Rows
section
variable {X : Cx} {L : Ln} {call : CallT} {W : WX}
/-- by values: a fresh container of two operands -/
def RF2 (S : Sy) (f : D → D → AH → Option D) : R2 := fun x y H Q => ∃ h wd dx dy, wd.H = H ∧ WOk wd ∧ RepH S.P S.w S.K S.L wd h ∧ RepP S.P S.w S.K S.L wd dx x ∧ RepP S.P S.w S.K S.L wd dy y ∧ ∃ d, f dx dy h = some d ∧ GoodF S wd Q d h
theorem GoodF.ext {S : Sy} {wd wd1 : Wd} {Q : VK} {d : D} {h : AH} (g : GoodF S wd Q d h) (e : Ext wd wd1) : GoodF S wd1 Q d h := fun p wd' e' ok rh o n => g p wd' (e.trans e') ok rh o fun z => n (e.live p z)
theorem rf_bin {o : Bin} {op : Operator} {a b : Expr} {a' b' : E} {pos : Pos} (ho : OpR X (binaryOp op) (RF2 (sy X L) fun x y h => binF o x y h)) (ha : PE X a (RdE (sy X L) call W a')) (hb : PE X b (RdE (sy X L) call W b')) :
    PE X (.BinOp a op b pos) (RdF (sy X L) call W (.bin o a' b')) := (pe_op ho ha hb).impM fun σ H Q q => by
  obtain ⟨en, h, wd, e1, st, p⟩ := q
  subst e1
  rw [evF] at p
  refine rdE_step st p.bind fun d h1 v wd1 g e1 st1 r _ => ?_
  refine rdE_step st1 (Post.ext g.bind e1 fun _ _ z => z) fun d2 h2 v2 wd2 g2 e2 st2 r2 _ => ?_
  obtain ⟨y, hy, g3⟩ := g2.ofO
  exact ⟨h2, wd2, d, d2, rfl, st2.ok, st2.rh, r.ext e2 st1.ok, r2, y, hy, GoodF.ext g3 (e1.trans e2)⟩
theorem opf_cat : OpR X (binaryOp .Add) (RF2 (sy X L) fun x y h => binF .add x y h) := op_catL.imp fun x y H Q ⟨h, wd, dx, dy, eH, ok, rh, rx, ry, d, e, g⟩ => by
  subst eH
  have e : (match asL dx h, asL dy h with
    | some a, some b => if a.length + b.length ≤ most then some (D.lst (a ++ b)) else none
    | _, _ => none) = some d := e
  cases e1 : asL dx h with
  | none => rw [e1] at e; cases e
  | some xs =>
    cases e2 : asL dy h with
    | none => rw [e1, e2] at e; cases e
    | some ys =>
      rw [e1, e2] at e
      obtain ⟨hl, rfl⟩ := some_if e
      obtain ⟨a, vs, rfl, sq, rvs, _⟩ := asL_sq ok rh rx e1
      obtain ⟨b, us, rfl, sq2, rvs2, _⟩ := asL_sq ok rh ry e2
      refine ⟨a, b, vs, us, rfl, rfl, sq, sq2, ?_, fun p hp => own_lst g (Ext.refl _) ok rh (rvs.app rvs2) (by rw [List.length_append]; exact hl) hp⟩
      rw [← rvs.len, ← rvs2.len]
      exact most_size hl
theorem reps_rep {P w K} {wd : Wd} {xs : List D} {vs : List V} (r : RepVs P w K L wd xs vs) : ∀ n : Nat, RepVs P w K L wd (List.replicate n xs).flatten (List.replicate n vs).flatten
  | 0 => RepVs.nil
  | n + 1 => by
    rw [List.replicate_succ, List.replicate_succ, List.flatten_cons, List.flatten_cons]
    exact r.app (reps_rep r n)
theorem opf_rep : OpR X (binaryOp .Mult) (RF2 (sy X L) fun x y h => binF .mul x y h) := op_repL.imp fun x y H Q ⟨h, wd, dx, dy, eH, ok, rh, rx, ry, d, e, g⟩ => by
  subst eH
  cases e1 : asL dx h with
  | none => simp only [binF, e1] at e; cases e
  | some xs =>
    cases dy with
    | int k =>
      simp only [binF, e1] at e
      obtain ⟨⟨h1, h2, hl⟩, rfl⟩ := some_if e
      obtain ⟨a, vs, rfl, sq, rvs, _⟩ := asL_sq ok rh rx e1
      have := int_at ry
      subst this
      have hlen : (List.replicate k.toNat xs).flatten.length ≤ most := by
        rw [PyProof.Rows.lm_len_rep_flat, Nat.mul_comm]; exact hl
      refine ⟨a, k, vs, rfl, rfl, sq, by omega, by omega, ?_, fun p hp => own_lst g (Ext.refl _) ok rh (reps_rep rvs _) hlen hp⟩
      rw [← rvs.len]
      exact most_size hl
    | _ => simp only [binF, e1] at e; cases e
/-- sorted(e) -/
theorem rf_srt {x : Str} {e : Expr} {e' : E} {p pos : Pos} (hx : x = "sorted") (hg : Gl X x) (hm : X.mg x = none) (he : PE X e (RdE (sy X L) call W e')) (hs : starEach [e] X.env = (false, eval e X.env) :: starEach [] X.env) (hdb : (x == ("__debug__" : Str)) = false) :
    PE X (.Call (.Name x p) [e] [] pos) (RdF (sy X L) call W (.srt e')) := by
  subst hx
  refine (pe_callB (p := p) (pos := pos) cr_sortedA hg hm rfl (pa_cons he pa_nil hs) (by decide) hdb hs rfl).impM fun σ H Q q => ?_
  obtain ⟨en, h, wd, e1, st, q⟩ := q
  subst e1
  rw [evF] at q
  refine rdE_step st q.bind fun d h1 v wd1 g x1 st1 r _ => ?_
  obtain ⟨y, hy, g⟩ := g.ofO
  cases e1 : asS d h1 with
  | none => rw [e1] at hy; cases hy
  | some xs =>
    rw [e1] at hy
    cases e2 : allI xs with
    | none => simp [e2] at hy
    | some ns =>
      simp only [Option.bind_some, e2, Option.map_some, Option.some.injEq] at hy
      subst hy
      obtain ⟨a, vs, rfl, sq, rvs, hl⟩ := seq_at st1.ok st1.rh r e1
      have := rep_ints e2 rvs
      subst this
      refine ⟨a, ns, rfl, ?_, fun q hq => own_lst g x1 st1.ok st1.rh (reps_of_ints _) ?_ hq⟩
      · rcases sq with ⟨sq, _⟩ | ⟨sq, _⟩
        · exact .inl sq
        · exact .inr sq
      · rw [List.length_map, (sortI_perm ns).length_eq, allI_len e2]; exact hl
/-- {} -/
theorem rf_dct0 {pos : Pos} : PE X (.Dict [] [] pos) (RdF (sy X L) call W (.dct .nil .nil)) := pe_dnewK.impM fun σ H Q ⟨en, h, wd, e1, st, q⟩ => by
  subst e1
  rw [evF] at q
  have q : GoodF (sy X L) wd Q (.dct [] []) h := by simpa [evEs, R.bind, Post] using q
  intro p hp
  have e2 := Ext.lay wd (o := .dK []) hp
  refine q p (wd.lay p (.dK [])) e2 (st.ok.lay hp) (st.rh.lay st.ok hp) ⟨⟨_, rfl, [], [], .inl ⟨[], .inl upd_same, rfl, rfl, rfl⟩, RepVs.nil, RepVs.nil, List.nodup_nil, by simp, fun o u z => ?_⟩, lay_free st.ok hp⟩ (fun z => z.ne hp)
  rw [show (wd.lay p (.dK [])).H p = some (.dK []) from upd_same] at z
  cases z
end
end Mi
end
section
set_option Elab.async false
set_option linter.all false
set_option maxRecDepth 100000
set_option maxHeartbeats 3200000
/-! set(list of ints), sorted(set(list of ints)). call_set_lstI: HandS's call_set_tupI, turned to lists. -/
namespace Mi
open PySem PySem.Spec PyProof.Rows L2
section
variable {P : Program} {w : World} {A : Around} {E : Value → Shared → Prop} {s : Shared}
set_option maxHeartbeats 3200000 in
theorem call_set_lstI {l : Addr} {items : Array Value} (ns : List Int) {Q : Value → Shared → Prop} (hh : A.handled = none) (hl : s.heap.IsList l items) (hit : IntsAre items.toList ns) (hb : ns.length + 1 < scanBound)
    (h : ∀ (h' : Heap) (tk c : Nat), SetR w h' s.heap.objs.size (fun j => decide (j ∈ ns)) c → c ≤ ns.length → (∀ b o, s.heap.get? b = some o → h'.get? b = some o) → Q (.ref s.heap.objs.size) { s with heap := h', toks := tk }) :
    wpAny (model P w) A (call (.type "set") [.ref l]) Q E s := by
  have hisz : items.size = ns.length := by
    have q := IntsAre.length hit
    rw [Array.length_toList] at q
    exact q
  obtain ⟨c, tl, hmro⟩ := F.called_set.mro
  have hmade := F.called_set.made
  have hsub := F.called_set.sub
  refine wpAny_call (codeAny_of_tree ?_)
  show wpAny _ _ (callAny (.type "set") _) _ _ _
  refine wpAny_pure ⟨Code.quiet_builtin _ (by decide +kernel), codeAny_builtin F.entry_type_call ?_⟩
  rw [Around.under_plain (weight_type_call_type "set" [.ref l] []) rfl]
  have h1 := F.called_set.notType
  have h2 := F.called_set.canCreate
  have hct := F.typeCall_set_1 (.ref l)
  repeat (any_goals (first | assumption | wp_step))

  refine codeAny_mono (code_set_led1 (.ref l) (E := E) (Q₁ := fun obj s₁ => obj = .ref s.heap.objs.size ∧ s₁ = { s with heap := s.heap.push { cls := .type "set", dict := none, data := .set #[] 0 (.fresh 0 0 (!w.params.followText "set-order")) } }) ⟨rfl, rfl⟩) fun r s₁ hr => ?_
  cases r with
  | error e => exact hr
  | ok fl =>
    cases fl with
    | ret obj =>
      obtain ⟨rfl, rfl⟩ := hr
      have hS : (s.heap.push { cls := .type "set", dict := none, data := .set #[] 0 (.fresh 0 0 (!w.params.followText "set-order")) }).get? s.heap.objs.size = some { cls := .type "set", dict := none, data := .set #[] 0 (.fresh 0 0 (!w.params.followText "set-order")) } := Heap.get?_push_size _ rfl
      have hT : Shared.TypeIs { s with heap := s.heap.push { cls := .type "set", dict := none, data := .set #[] 0 (.fresh 0 0 (!w.params.followText "set-order")) } } (.ref s.heap.objs.size) "set" := ⟨_, hS, rfl⟩
      have hli := F.called_set.init.lookup
      have hbi := F.called_set.init.bind (.ref s.heap.objs.size)
      repeat (any_goals (first | assumption | wp_step))

      refine codeAny_mono (codeAny_call_builtin (R := wants (fun r s₂ => r = .none ∧ ∃ h' tk c, s₂ = { s with heap := h', toks := tk } ∧ SetR w h' s.heap.objs.size (fun j => decide (j ∈ ns)) c ∧ c ≤ ns.length ∧
          (∀ b o, s.heap.get? b = some o → h'.get? b = some o)) E) F.called_set.init.plain F.entry_set_init (check_set_init_1 hT ?_)) fun r₂ s₂ hr₂ => ?_
      · obtain ⟨ol, hol, hcl, nl, hdl⟩ := hl
        obtain ⟨ocls, odict, odata, oslots⟩ := ol
        simp only at hcl hdl
        subst hcl; subst hdl
        have hol' : (s.heap.push { cls := .type "set", dict := none, data := .set #[] 0 (.fresh 0 0 (!w.params.followText "set-order")) }).get? l = some { cls := .type "list", dict := odict, data := .seq items nl, slots := oslots } := Heap.get?_push_of_some _ hol
        have hsls := F.sub_list_set
        have hslf := F.sub_list_frozenset
        have hne : (Value.type "list" == Value.type "dict") = false := by decide
        have hl1 : (s.heap.push { cls := .type "set", dict := none, data := .set #[] 0 (.fresh 0 0 (!w.params.followText "set-order")) }).IsList l items := ⟨_, hol', rfl, nl, rfl⟩
        unfold Builtin.«set.__init__» noKeywords Builtin.Frozenset.updateFrom
        generalize hPI : pyIter = PI
        wp_walk
        subst hPI

        refine wpAny_pyIter_list hl1 ?_
        refine wpAny_bind (wpAny_runValue ?_)
        have hlS : l < s.heap.objs.size := Heap.lt_size hol
        have hh3 : A.in1.in1.in1.handled = none := by simp [hh]
        have hz1 : (s.heap.push { cls := .type "set", dict := none, data := .set #[] 0 (.fresh 0 0 (!w.params.followText "set-order")) }).objs.size = s.heap.objs.size + 1 := Heap.size_push ..
        have hneI : l ≠ (s.heap.push { cls := .type "set", dict := none, data := .set #[] 0 (.fresh 0 0 (!w.params.followText "set-order")) }).objs.size := by
          rw [Heap.size_push]; exact Nat.ne_of_lt (Nat.lt_succ_of_lt hlS)
        have hSf : s.heap.objs.size ∉ [(s.heap.push { cls := .type "set", dict := none, data := .set #[] 0 (.fresh 0 0 (!w.params.followText "set-order")) }).objs.size, l] := by
          rw [Heap.size_push]; simp only [List.mem_cons, List.mem_singleton, List.not_mem_nil, or_false, not_or]
          exact ⟨Nat.ne_of_lt (Nat.lt_succ_self _), Nat.ne_of_gt hlS⟩
        have hval : ∀ (i : Nat) (v : Value), items[i]? = some v → ∃ k t, ns[i]? = some k ∧ v = .int k t := fun i v hv => by
          have hi : i < ns.length := by rw [← hisz]; exact (Array.getElem?_eq_some_iff.mp hv).1
          obtain ⟨t, e⟩ := PyProof.Rows.IntsAre.int_at hit i v (by rw [Array.getElem?_toList]; exact hv)
          refine ⟨ns[i], t, List.getElem?_eq_getElem hi, ?_⟩
          rw [e, List.getD_eq_getElem?_getD, List.getElem?_eq_getElem hi] <;> rfl
        refine set_update_ints ((Walks.list hh3 _ l hneI items).toS) s.heap.objs.size
          hSf ns hisz hb hval (items.size - 0) 0 _ (by omega) (Nat.zero_le _)
          ⟨⟨_, Heap.get?_push_size _ rfl, rfl, rfl⟩, (hl1.push _)⟩ ?hS0 ?hR
        case hS0 =>
          have hget : ((s.heap.push { cls := .type "set", dict := none, data := .set #[] 0 (.fresh 0 0 (!w.params.followText "set-order")) }).push { cls := .type "list_iterator", data := .fields #[.ref l, .int 0 0] }).get? s.heap.objs.size
              = some { cls := .type "set", dict := none, data := .set #[] 0 (.fresh 0 0 (!w.params.followText "set-order")) } := Heap.get?_push_of_some _ hS
          exact ⟨0, Nat.le_refl 0, setR_new_at hget⟩
        case hR =>
          intro s' c' hm hc' hS'
          obtain ⟨h', g2, d', tk', os'⟩ := s'
          have eg : g2 = s.gens := hm.gens
          have ed : d' = s.drawn := hm.drawn
          have eo : os' = s.os := hm.os
          subst eg; subst ed; subst eo
          show wpAny _ _ _ _ _ _
          refine wpAny_pure ?_
          show wpAny _ _ (ret Value.none) _ _ _
          rw [hisz] at hc'
          refine wpAny_pure ⟨rfl, h', tk', c', rfl, hS', hc', fun b o e => ?_⟩
          have hb0 : b < s.heap.objs.size := Heap.lt_size e
          have hb1 : b ≠ s.heap.objs.size := Nat.ne_of_lt hb0
          have hb2 : b ≠ (s.heap.push { cls := .type "set", dict := none, data := .set #[] 0 (.fresh 0 0 (!w.params.followText "set-order")) }).objs.size := by
            rw [Heap.size_push]; exact Nat.ne_of_lt (Nat.lt_succ_of_lt hb0)
          exact hm.heap b o (by simp only [List.mem_cons, List.mem_singleton, List.not_mem_nil, or_false, not_or]; exact ⟨hb1, hb2⟩) (Heap.get?_push_of_some _ (Heap.get?_push_of_some _ e))

      · cases r₂ with
        | error e => exact hr₂
        | ok fl₂ =>
          cases fl₂ with
          | ret r =>
            obtain ⟨rfl, h', tk, c', rfl, hS', hc', hk'⟩ := hr₂
            repeat (any_goals (first | assumption | wp_step))
            exact h _ _ _ hS' hc' hk'
          | _ => exact hr₂.elim
    | _ => exact hr.elim

end
end Mi
end
section
set_option Elab.async false
set_option linter.all false
set_option maxRecDepth 100000
set_option maxHeartbeats 800000
/-! sorted(set(xs)) of a list of ints. -/
namespace Mi
open PySem L2 PyProof.Rows
section
variable {X : Cx} {L : Ln} {call : CallT} {W : WX}
def rSetL (K : PySem.W.Frag) (w : World) : List V → Hp → VK → Prop := fun xs H Q => ∃ (a : Addr) (ns : List Int), xs = [.ref a] ∧ SqL K H a (ns.map V.int) ∧ ns.length < 60 ∧ ∀ (p : Addr) (n : Nat), n ≤ ns.length → H p = none → Q (.ref p) (upd H p (SetO w p (fun j => decide (j ∈ ns)) n))
theorem cr_setL (hc : X.calm = true) : CallR X (.type "set") (rSetL X.K X.w) := by
  intro pins s σ H xs us Q I r h
  obtain ⟨a, ns, rfl, hs, h60, q⟩ := h
  obtain ⟨its, rv, pl, hz⟩ := I.list hs
  rw [Vals.ref1 r]
  refine call_set_lstI ns (I.ok.hd hc) (show s.heap.IsList a its.toArray from pl.isList) (by simpa using rv.ints) (by unfold scanBound; omega) fun h' tk c R1 hcn k => ?_
  exact ⟨.ref s.heap.objs.size, _, I.laid (t' := tk) k (Nat.le_refl _) (setO_new R1), rfl, q _ c hcn (I.hok.fresh (Nat.le_refl _))⟩
theorem mem_dedupI : ∀ (xs : List Int) (k : Int), k ∈ dedupI xs ↔ k ∈ xs
  | [], k => Iff.rfl
  | x :: xs, k => by
    rw [dedupI]
    split
    · rename_i hx
      rw [mem_dedupI xs k, List.mem_cons]
      exact ⟨.inr, fun h => h.elim (fun e => by rw [e]; exact (mem_dedupI xs x).mp hx) id⟩
    · rw [List.mem_cons, List.mem_cons, mem_dedupI xs k]
theorem nodup_dedupI : ∀ xs : List Int, (dedupI xs).Nodup
  | [] => List.nodup_nil
  | x :: xs => by
    rw [dedupI]
    split
    · exact nodup_dedupI xs
    · rename_i hx
      exact List.nodup_cons.mpr ⟨hx, nodup_dedupI xs⟩
theorem srt_dedup {xs ys : List Int} (h1 : ys.Pairwise (· < ·)) (h2 : ∀ k : Int, k ∈ ys ↔ decide (k ∈ xs) = true) : ys = sortI (dedupI xs) := by
  refine sortI_eq ?_ (h1.imp fun h => Int.le_of_lt h)
  have nd : ys.Nodup := h1.imp fun h e => by omega
  rw [List.perm_ext_iff_of_nodup nd (nodup_dedupI xs)]
  intro k
  rw [h2, decide_eq_true_eq, mem_dedupI]
theorem dedupI_len : ∀ xs : List Int, (dedupI xs).length ≤ xs.length
  | [] => Nat.le_refl _
  | x :: xs => by
    have := dedupI_len xs
    rw [dedupI]
    split <;> simp <;> omega
/-- sorted(set(e)) -/
theorem rf_srtset {e : Expr} {e' : E} {p p2 pos q : Pos} (hc : X.calm = true) (hg : Gl X "sorted") (hm : X.mg "sorted" = none) (hg2 : Gl X "set") (hm2 : X.mg "set" = none) (he : PE X e (RdE (sy X L) call W e')) (hs : starEach [e] X.env = (false, eval e X.env) :: starEach [] X.env)
    (hr : starEach [Expr.Call (.Name "set" p2) [e] [] q] X.env = (false, eval (Expr.Call (.Name "set" p2) [e] [] q) X.env) :: starEach [] X.env) :
    PE X (.Call (.Name "sorted" p) [.Call (.Name "set" p2) [e] [] q] [] pos) (RdF (sy X L) call W (.srtset e')) := by
  have h1 := pe_callTy (p := p2) (pos := q) (cr_setL hc) hg2 hm2 rfl (pa_cons he pa_nil hs) (by decide) (by decide) hs rfl
  refine (pe_callB (p := p) (pos := pos) (cr_sortedSet hc) hg hm rfl (pa_cons h1 pa_nil hr) (by decide) (by decide) hr rfl).impM fun σ H Q z => ?_
  obtain ⟨en, h, wd, e1, st, z⟩ := z
  subst e1
  rw [evF] at z
  refine rdE_step st z.bind fun d h1 v wd1 g x1 st1 r _ => ?_
  obtain ⟨y, hy, g⟩ := g.ofO
  cases e1 : asL d h1 with
  | none => rw [e1] at hy; cases hy
  | some xs =>
    rw [e1] at hy
    cases e2 : allI xs with
    | none => simp [e2] at hy
    | some ns =>
      simp only [Option.bind_some, e2] at hy
      obtain ⟨hl, rfl⟩ := some_if hy
      obtain ⟨a, vs, rfl, sq, rvs, hxl⟩ := asL_sq st1.ok st1.rh r e1
      have := rep_ints e2 rvs
      subst this
      refine ⟨a, ns, rfl, sq, hl, fun p1 n hn hp => ?_⟩
      refine ⟨p1, _, n, rfl, upd_same, by omega, fun ms p2 hp1 hp2 hp3 hp4 => ?_⟩
      rw [srt_dedup hp1 hp2]
      have e2' := Ext.lay wd1 (o := SetO X.w p1 (fun j => decide (j ∈ ns)) n) hp
      have ok2 := st1.ok.lay (o := SetO X.w p1 (fun j => decide (j ∈ ns)) n) hp (fun _ z => nomatch z)
      exact own_lst (wd := wd1.lay p1 _) g (x1.trans e2') ok2 (st1.rh.lay st1.ok hp) (reps_of_ints _) (by rw [List.length_map, (sortI_perm _).length_eq]; have := dedupI_len ns; unfold most; omega) hp4
end
end Mi
end
section
set_option Elab.async false
set_option linter.all false
set_option maxRecDepth 100000
set_option maxHeartbeats 800000
/-! list(e). -/
namespace Mi
open PySem L2 PyProof.Rows
section
variable {X : Cx} {L : Ln} {call : CallT} {W : WX}
def rListA (K : PySem.W.Frag) : List V → Hp → VK → Prop := fun xs H Q => ∃ p ys, xs = [.ref p] ∧ (SqL K H p ys ∨ SqT K H p ys ∨ ∃ kvs : List (Key × V), Rd H p (.dK kvs) ∧ ys = kvs.map fun kv => kV kv.1) ∧ (ys.length ≤ sizeLine → ∀ q, H q = none → Q (.ref q) (upd H q (.lst ys)))
theorem call_listA (hc : X.calm = true) : CallR X (.type "list") (rListA X.K) := by
  intro pins s σ H xs us Q I r h
  obtain ⟨p, ys, e, hk, q⟩ := h
  subst e
  rcases hk with hk | hk | ⟨kvs, hk, rfl⟩
  · obtain ⟨_, _, _, hz⟩ := I.list hk
    exact call_list_of pins s σ H _ us Q I r ⟨p, ys, rfl, .inl hk, q hz⟩
  · obtain ⟨_, _, _, hz⟩ := I.tuple hk
    exact call_list_of pins s σ H _ us Q I r ⟨p, ys, rfl, .inr hk, q hz⟩
  obtain rfl := Vals.ref1 r
  obtain ⟨z, lo, vs, rk, hd⟩ := dk_rd I.hok hk
  obtain ⟨ep, hat⟩ := hd.dictAt
  have hl : kvs.length = vs.length := Paired.length rk
  refine PySem.W.kdl_call (PySem.W.kdl_dict (knd := mixKind X.prog X.w) (kvs := vs) (ep := ep) lo) (I.ok.hd hc) hat (by rw [← hl]; exact z) fun h' tk acc' c' hkeep hS hacc => ?_
  refine ⟨.ref s.heap.objs.size, upd H s.heap.objs.size (.lst (kvs.map fun kv => kV kv.1)), I.laid hkeep (Nat.le_refl _) (show ObjOk X.prog X.w _ _ _ (.lst (kvs.map fun kv => kV kv.1)) from ⟨?_, acc'.toList, c', ?_, ?_⟩), rfl, q (by rw [List.length_map]; exact z) _ (I.hok.fresh (Nat.le_refl _))⟩
  · rw [List.length_map]; exact z
  · have el : acc'.toList.length = acc'.size := by simp
    refine vals_of_at (by rw [List.length_map, el, hacc.1, hl]) fun j x w h1 h2 => ?_
    obtain ⟨k, y, hky, hi⟩ := hacc.2 j w (by rw [← Array.getElem?_toList]; exact h2)
    have e1 : (kvs.map (·.1))[j]? = some k := by
      rw [KV.keys rk, List.getElem?_map, hky] <;> rfl
    have e2 : (kvs.map fun kv => kV kv.1)[j]? = some (kV k) := by
      have e3 : (kvs.map fun kv => kV kv.1) = (kvs.map (·.1)).map kV := by rw [List.map_map] <;> rfl
      rw [e3, List.getElem?_map, e1] <;> rfl
    rw [e2] at h1
    cases h1
    exact keyIs_rel hi
  · rw [Array.toArray_toList]; exact hS
/-- list(e) -/
theorem rf_of {e : Expr} {e' : E} {p pos : Pos} (hc : X.calm = true) (hg : Gl X "list") (hm : X.mg "list" = none) (he : PE X e (RdE (sy X L) call W e')) (hs : starEach [e] X.env = (false, eval e X.env) :: starEach [] X.env) :
    PE X (.Call (.Name "list" p) [e] [] pos) (RdF (sy X L) call W (.of (.e e'))) := by
  refine (pe_callTy (p := p) (pos := pos) (call_listA hc) hg hm rfl (pa_cons he pa_nil hs) (by decide) (by decide) hs rfl).impM fun σ H Q z => ?_
  obtain ⟨en, h, wd, e1, st, z⟩ := z
  subst e1
  rw [evF] at z
  refine rdE_step st z.bind fun d h1 v wd1 g x1 st1 r _ => ?_
  cases e1 : asS d h1 with
  | some xs =>
    rw [e1] at g
    have g : GoodF (sy X L) wd Q (.lst xs) h1 := g
    obtain ⟨a, vs, rfl, sq, rvs, hl⟩ := seq_at st1.ok st1.rh r e1
    refine ⟨a, vs, rfl, ?_, fun _ q hq => own_lst g x1 st1.ok st1.rh rvs hl hq⟩
    rcases sq with ⟨sq, _⟩ | ⟨sq, _⟩
    · exact .inl sq
    · exact .inr (.inl sq)
  | none =>
    rw [e1] at g
    dsimp only at g
    cases e2 : asD d h1 with
    | none => rw [e2] at g; exact g.elim
    | some pr =>
      obtain ⟨ks, ws⟩ := pr
      rw [e2] at g
      dsimp only at g
      by_cases hf : ks.all D.flat = true
      · rw [if_pos hf] at g
        have g : GoodF (sy X L) wd Q (.lst ks) h1 := g
        obtain ⟨a, kk, vv, rfl, da, rk, rvs, nd, ok'⟩ := dct_at st1.rh r e2
        rcases da with ⟨kvs, hr, e3, e4, e5⟩ | ⟨xs, _, _, _, ne, _, _, _, tk⟩
        · subst e3
          refine ⟨a, _, rfl, .inr (.inr ⟨kvs, hr, rfl⟩), fun hz q hq => own_lst g x1 st1.ok st1.rh rk ?_ hq⟩
          rw [sizeLine_eq] at hz
          rw [rk.len]; exact hz
        · cases ks with
          | nil => exact absurd rfl ne
          | cons k ks =>
            obtain ⟨ys, e⟩ := tk k List.mem_cons_self
            subst e
            simp [D.flat] at hf
      · rw [if_neg hf] at g; exact g.elim
end
end Mi
end
section
set_option Elab.async false
set_option linter.all false
set_option maxRecDepth 100000
set_option maxHeartbeats 800000
/-! a def's promise from its body's reading. -/
namespace Mi
open PySem L2 PyProof.Rows
section
variable {P : Program} {w : World} {K : PySem.W.Frag} {L : Ln}
theorem startEnv_no {n : Nat} {ds : List D} {i : Nat} {d : D} (h : (startEnv n ds)[i]? = some (.o d)) : False := by
  have m := List.mem_of_getElem? h
  unfold startEnv at m
  rcases List.mem_append.mp m with m | m
  · obtain ⟨x, _, e⟩ := List.mem_map.mp m
    cases e
  · cases (List.mem_replicate.mp m).2
theorem start_rep {wd : Wd} {N : List Str} {ds : List D} {vs : List V} (rv : RepVs P w K L wd ds vs) (tb : wd.T = L.T) : RepE P w K L wd (L2.start N vs) (startEnv N.length ds) := by
  have hd := rv.len
  refine ⟨?_, fun i sl v h1 h2 => ?_, tb, fun i j d e p h1 h2 _ _ => (startEnv_no h1).elim⟩
  · unfold L2.start startEnv
    simp [hd]
  · unfold L2.start at h2
    unfold startEnv at h1
    by_cases hi : i < ds.length
    · rw [List.getElem?_append_left (by simpa using hi), List.getElem?_map, List.getElem?_eq_getElem hi] at h1
      rw [List.getElem?_append_left (by rw [List.length_map, ← hd]; exact hi), List.getElem?_map] at h2
      obtain ⟨x, e1, r⟩ := rv.get (List.getElem?_eq_getElem hi)
      rw [e1] at h2
      cases h1
      cases h2
      exact ⟨x, rfl, r⟩
    · rw [List.getElem?_append_right (by rw [List.length_map]; omega)] at h1
      have := (List.mem_replicate.mp (List.mem_of_getElem? h1)).2
      subst this
      trivial
/-- the promise of the def f, one level up -/
theorem fnG_of {mg : Str → Option Value} {base : Heap} {rp : Bool} {k n : Nat} {f : Addr} {name qual : Str} {params : Arguments} {body : List Stmt} {scope : Scope} {dV kV doc pm cdv ct oc : Value} {an od : Option Addr}
    {osl : Array (Option Value)} {N ps : List Str} {fi : Nat} {fn : Fn} (lk : K.lookup f = some ⟨oc, od, .func (PySem.W.fnOf name qual params body scope dV kV doc pm an cdv ct), osl⟩) (hcd : PySem.W.codeIn K cdv qual = true) (S : FnScope N ps scope)
    (hf : L.g.fns[fi]? = some fn) (hnp : fn.np = ps.length) (hns : fn.ns = N.length)
    (hbody : ∀ (A : Around) (outer : List Env) (s : Shared) (H : Hp) (E : XK) (w0 : Wd), Room k (A.deeper (envOfC qual scope s.heap.objs.size f cdv)) → (rp = true → A.guards = some []) →
      PSs (cxOf (L2.CX P w) P w K mg base N qual scope f cdv A outer s H E) body (RdX ⟨P, w, K, L⟩ w0 (fun c d _ H => E c d H) (evSs L.g (callD L.g n) fn.body))) :
    FnG P w K mg base (k + 1) rp f (PySem.W.fnOf name qual params body scope dV kV doc pm an cdv ct) ps (spD P w K L ps.length (callD L.g (n + 1)) fi) := by
  refine ⟨fun vs H Q E ⟨ds, h, wd, _, _, _, _, rv, hl, _⟩ => by rw [← rv.len]; exact hl, fun A outer s H args us vs Q E hr hg e0 hb r hsp => ?_⟩
  obtain ⟨ds, h, wd, eH, ok, tb, rh, rv, hl, p⟩ := hsp
  subst eH
  refine LamX.run_ofS lk hcd S hr e0 hb r (by rw [← rv.len]; exact hl) fun hr' => ⟨_, hbody A outer s wd.H E wd hr' hg, ?_⟩
  rw [callD, hf] at p
  dsimp only at p
  rw [if_pos (by rw [hl, hnp])] at p
  rw [hns] at p
  refine ⟨startEnv N.length ds, h, wd, rfl, ⟨⟨ok, rh, start_rep rv tb⟩, Ext.refl _, fun i d p h1 _ => (startEnv_no h1).elim⟩, ?_⟩
  generalize evSs L.g (callD L.g n) fn.body (startEnv N.length ds) h = R at p
  cases R with
  | fail => exact p.elim
  | exc c d h1 => exact fun σ wd' dx v x ok rh r hd => p wd' dx v x ok rh r hd
  | ok fl h1 =>
    cases fl with
    | nx en => exact fun σ wd' fr _ => p .non wd' fr.ex fr.st.ok fr.st.rh (by rw [RepV])
    | rt d => exact fun v wd' x ok rh r => p v wd' x ok rh r
    | bk en => exact p.elim
    | ct en => exact p.elim
end
end Mi
end
section
set_option Elab.async false
set_option linter.all false
set_option maxRecDepth 100000
set_option maxHeartbeats 800000
/-! The matcher: is that text this mini program? -/
namespace Mi
open PySem L2

/-- what a name of the module stands for -/
inductive GK where
  | fn (i : Nat) | cls (c : Nat) | con (d : D)
  deriving DecidableEq
structure Tab where
  g : G
  glob : List (Str × GK)
  free : List Str
  an : List Str
  errs : List Nat
  /-- which defs ask for a repr -/
  rp : Nat → Bool
/-- where a text stands: its slots, its scope, which cells are its own, whether lambdas may be made -/
structure Md where
  N : List Str
  sc : Scope
  fn : Str → Bool
  lam : Bool
  gd : Bool

def nmOk (x : Str) : Bool := !(x == ("__debug__" : Str)) && !(x == ("__classdict__" : Str))
def visB (sc : Scope) (x : Str) : Bool := match sc.names.lookup x with
  | some .local | some .cell | some .free => true
  | _ => false
def glB (sc : Scope) (x : Str) : Bool := decide (sc.names.lookup x = some .globalImplicit) && !(x == ("__debug__" : Str))
def uop : UOp → UnaryOp
  | .neg => .USub | .not => .Not
def biN : BI → Str
  | .len => "len" | .tuple => "tuple" | .sum => "sum" | .max => "max" | .min => "min" | .any => "any" | .all => "all" | .int => "int" | .str => "str" | .repr => "repr" | .abs => "abs" | .ord => "ord"
def biHas : BI → Bool
  | .str | .ord => false
  | _ => true
def bmN : BM → Str
  | .get => "get" | .append => "append" | .pop => "pop" | .insert => "insert" | .extend => "extend" | .index => "index" | .count => "count" | .join => "join" | .split => "split" | .startswith => "startswith" | .endswith => "endswith" | .setdefault => "setdefault"
def noStar : Expr → Bool
  | .Starred .. => false
  | _ => true
def noSet : Expr → Bool
  | .Set .. => false
  | _ => true
def noComp : Expr → Bool
  | .ListComp .. | .SetComp .. | .DictComp .. => false
  | _ => true
def isTupE : Expr → Bool
  | .Tuple .. => true
  | _ => false
/-- an index, no slice -/
def noSlice : Expr → Bool
  | .Slice .. => false
  | _ => true
/-- an attribute's owner: no super() -/
def baseB : Expr → Bool
  | .Call .. => false
  | _ => true
def plainTest : Expr → Bool
  | .UnaryOp .. | .BoolOp .. | .IfExp .. | .Compare .. => false
  | _ => true
def constB (e : Expr) (d : D) : Bool := match e, d with
  | .Constant .none _ _, .non => true
  | .Constant (.bool a) _ _, .bl b => a == b
  | .Constant (.int a) _ _, .int b => decide (a = b)
  | .Constant (.str a) _ _, .str b => decide (a = strV b)
  | _, _ => false
def varB (M : Md) (e : Expr) (i : Nat) : Bool := match e with
  | .Name x _ => decide (M.N[i]? = some x) && (visB M.sc x && nmOk x)
  | _ => false
def globB (T : Tab) (M : Md) (e : Expr) (d : D) : Bool := match e with
  | .Name x _ => glB M.sc x && (match T.glob.lookup x with
    | some (.con c) => decide (c = d)
    | some (.fn i) => decide (d = .fn i)
    | some (.cls i) => decide (d = .cls i)
    | none => false)
  | _ => false
def isFn (T : Tab) (M : Md) (x : Str) (f : Nat) : Bool := glB M.sc x && decide (T.glob.lookup x = some (.fn f))
def isCls (T : Tab) (M : Md) (x : Str) (c : Nat) : Bool := glB M.sc x && decide (T.glob.lookup x = some (.cls c))
def isBlt (T : Tab) (M : Md) (x y : Str) : Bool := decide (x = y) && (glB M.sc x && T.free.contains x)
def tyB (T : Tab) (M : Md) (e : Expr) (t : D) : Bool := match e with
  | .Name x _ => (match t with
    | .ty k => decide (k ≤ 5) && isBlt T M x (Str.ofString (tyName k))
    | .cls c => decide (c < T.g.cls.length) && isCls T M x c
    | _ => false)
  | _ => false
def tysB (T : Tab) (M : Md) : List Expr → List D → Bool
  | [], [] => true
  | e :: es, t :: ts => noStar e && (tyB T M e t && tysB T M es ts)
  | _, _ => false
def blkB (N : List Str) (sc scope : Scope) (own : List (Str × Nat)) : Bool :=
  decide (scope.kind = .function) && ((scope.names.all fun y => decide (scope.names.lookup y.1 = some y.2)) && ((own.all fun p => decide (N[p.2]? = some p.1)) &&
    ((scope.names.all fun y => !decide (y.2 = .free) || (decide (sc.names.lookup y.1 = some .cell) || decide (sc.names.lookup y.1 = some .free))) &&
      (scope.names.all fun y => !(decide (y.2 = .local) || decide (y.2 = .cell)) || ((own.map (·.1)).contains y.1 || !N.contains y.1)))))
def ownOf (N : List Str) (own : List Nat) : List (Str × Nat) := own.map fun i => (N.getD i Str.empty, i)
def Md.blk (M : Md) (scope : Scope) : Md := ⟨M.N, relS scope M.sc, fun x => scope.names.lookup x == some .cell, false, M.gd⟩
def storeB (M : Md) (x : Str) (i : Nat) : Bool := decide (M.N[i]? = some x) && (decide (M.sc.names.lookup x = some .local) || (M.fn x && decide (M.sc.names.lookup x = some .cell)))
mutual
def mT : Nat → Md → Expr → T → Bool
  | 0, _, _, _ => false
  | n + 1, M, e, t => match t with
    | .v i => (match e with
      | .Name x _ => storeB M x i
      | _ => false)
    | .t ts => (match e with
      | .Tuple es _ _ => mTs n M es ts
      | _ => false)
def mTs : Nat → Md → List Expr → List T → Bool
  | 0, _, _, _ => false
  | n + 1, M, es, ts => match es, ts with
    | [], [] => true
    | e :: es, t :: ts => noStar e && (mT n M e t && mTs n M es ts)
    | _, _ => false
end
def lenOk (es : Es) : Bool := decide (es.len ≤ 1000)
def argsFew (es : List Expr) : Bool := decide (es.length < 29) && es.all noStar
mutual
def mE : Nat → Tab → Md → Expr → E → Bool
  | 0, _, _, _, _ => false
  | n + 1, T, M, e, e' => match e' with
    | .c d => constB e d
    | .v i => varB M e i
    | .g _ d => globB T M e d
    | .un o a' => (match e with
      | .UnaryOp op a _ => decide (op = uop o) && mE n T M a a'
      | _ => false)
    | .bin o a' b' => (match e with
      | .BinOp a op b _ => decide (op = bop o) && (mE n T M a a' && mE n T M b b')
      | _ => false)
    | .cmp o a' b' => (match e with
      | .Compare a [op] [b] _ => decide (op = cop o) && (!behindInMarks op b && (mE n T M a a' && mE n T M b b'))
      | _ => false)
    | .chn o p a' b' c' => (match e with
      | .Compare a [op, oq] [b, c] _ => decide (op = cop o) && (decide (oq = cop p) && (!lastMarks [op, oq] [b, c] && (mE n T M a a' && (mE n T M b b' && mE n T M c c'))))
      | _ => false)
    | .and _ _ => (match e with
      | .BoolOp .And vs _ => mAnd n T M vs e'
      | _ => false)
    | .or _ _ => (match e with
      | .BoolOp .Or vs _ => mOr n T M vs e'
      | _ => false)
    | .ife t a' b' => (match e with
      | .IfExp c a b _ => mB n T M c t && (mE n T M a a' && mE n T M b b')
      | _ => false)
    | .tup es' => (match e with
      | .Tuple es _ _ => lenOk es' && mEs n T M es es'
      | _ => false)
    | .fr f => mF n T M e f
    | .al f => mF n T M e f
    | .call f es' => (match e with
      | .Call (.Name x _) es [] _ => isFn T M x f && ((M.gd || !T.rp f) && (decide ((T.g.fns[f]?.map (·.np)) = some es'.len) && (es.all noStar && mEs n T M es es')))
      | _ => false)
    | .new c es' => (match e with
      | .Call (.Name x _) es [] _ => isCls T M x c && (decide (c < T.g.cls.length) && (es.all noStar && mEs n T M es es'))
      | _ => false)
    | .meth o' m es' => (match e with
      | .Call (.Attribute o x apos) es [] pos => decide (T.an[m]? = some x) && (baseB o && ((apos.endLine == pos.line) && (argsFew es && (mE n T M o o' && mEs n T M es es'))))
      | _ => false)
    | .bi b es' => (match e with
      | .Call (.Name x _) es [] _ => (biHas b && (M.gd || !decide (b = .repr))) && (isBlt T M x (biN b) && (!es.isEmpty && (es.all noStar && mEs n T M es es')))
      | _ => false)
    | .bit .tuple (.r1 a') => (match e with
      | .Call (.Name x _) [.Call (.Name y _) [a] [] _] [] _ => isBlt T M x "tuple" && (isBlt T M y "range" && (noStar a && mE n T M a a'))
      | _ => false)
    | .isi a' ts => (match e with
      | .Call (.Name x _) [a, t] [] _ => isBlt T M x "isinstance" && (noStar a && (noStar t && (mE n T M a a' && (match t with
        | .Tuple tes _ _ => !ts.isEmpty && (decide (ts.length ≤ 1000) && tysB T M tes ts)
        | _ => (match ts with
          | [u] => tyB T M t u
          | _ => false)))))
      | _ => false)
    | .bm o' m es' => (match e with
      | .Call (.Attribute o x apos) es [] pos => decide (m = .get) && (decide (x = bmN m) && (baseB o && ((apos.endLine == pos.line) && (!es.isEmpty && (argsFew es && (mE n T M o o' && mEs n T M es es'))))))
      | _ => false)
    | .fld a' k => (match e with
      | .Attribute a x _ => decide (T.an[k]? = some x) && (baseB a && mE n T M a a')
      | _ => false)
    | .ix a' b' => (match e with
      | .Subscript a b _ => noSlice b && (mE n T M a a' && mE n T M b b')
      | _ => false)
    | .sl a' lo' hi' => (match e with
      | .Subscript a (.Slice lo hi none _) _ => mE n T M a a' && (mO n T M lo lo' && mO n T M hi hi')
      | _ => false)
    | .rf f a' => (match e with
      | .Call (.Name x _) [.Lambda ⟨[], [], none, [], [], none, []⟩ body scope _] [] _ => M.lam && (decide (f = 0) && (decide (x = ("_law_refused" : Str)) && (glB M.sc x && (LamX.lamSB M.sc scope && mE n T ⟨M.N, scope, fun _ => false, false, false⟩ body a'))))
      | _ => false)
    | _ => false
def mAnd : Nat → Tab → Md → List Expr → E → Bool
  | 0, _, _, _, _ => false
  | n + 1, T, M, vs, e' => match vs with
    | [] => false
    | [b] => mE n T M b e'
    | a :: b :: r => (match e' with
      | .and a' b' => mE n T M a a' && mAnd n T M (b :: r) b'
      | _ => false)
def mOr : Nat → Tab → Md → List Expr → E → Bool
  | 0, _, _, _, _ => false
  | n + 1, T, M, vs, e' => match vs with
    | [] => false
    | [b] => mE n T M b e'
    | a :: b :: r => (match e' with
      | .or a' b' => mE n T M a a' && mOr n T M (b :: r) b'
      | _ => false)
def mEs : Nat → Tab → Md → List Expr → Es → Bool
  | 0, _, _, _, _ => false
  | n + 1, T, M, es, as => match es, as with
    | [], .nil => true
    | e :: es, .cons a as => noStar e && (mE n T M e a && mEs n T M es as)
    | _, _ => false
def mO : Nat → Tab → Md → Option Expr → Option E → Bool
  | 0, _, _, _, _ => false
  | n + 1, T, M, e, a => match e, a with
    | none, none => true
    | some e, some a => mE n T M e a
    | _, _ => false
def mB : Nat → Tab → Md → Expr → B → Bool
  | 0, _, _, _, _ => false
  | n + 1, T, M, e, b => match b with
    | .e e' => (match e with
      | .Compare a [op] [c] _ => (match e' with
        | .cmp o a' c' => decide (op = cop o) && (!behindInMarks op c && (mE n T M a a' && mE n T M c c'))
        | _ => false)
      | _ => plainTest e && mE n T M e e')
    | .and _ _ => (match e with
      | .BoolOp .And vs _ => mAndB n T M vs b
      | _ => false)
    | .or _ _ => (match e with
      | .BoolOp .Or vs _ => mOrB n T M vs b
      | _ => false)
    | .not a' => (match e with
      | .UnaryOp .Not a _ => mB n T M a a'
      | _ => false)
def mAndB : Nat → Tab → Md → List Expr → B → Bool
  | 0, _, _, _, _ => false
  | n + 1, T, M, vs, b => match vs with
    | [] => false
    | [c] => mB n T M c b
    | a :: c :: r => (match b with
      | .and a' b' => mB n T M a a' && mAndB n T M (c :: r) b'
      | _ => false)
def mOrB : Nat → Tab → Md → List Expr → B → Bool
  | 0, _, _, _, _ => false
  | n + 1, T, M, vs, b => match vs with
    | [] => false
    | [c] => mB n T M c b
    | a :: c :: r => (match b with
      | .or a' b' => mB n T M a a' && mOrB n T M (c :: r) b'
      | _ => false)
/-- the parts of a comprehension -/
def mLc : Nat → Tab → Md → Expr → List Comprehension → Scope → F → Bool
  | 0, _, _, _, _, _, _ => false
  | n + 1, T, M, elt, gs, scope, f => match gs, f with
    | [⟨tg, iter, ifs, 0⟩], .lc own t i cond e => blkB M.N M.sc scope (ownOf M.N own) && ((t.slots.all fun j => own.contains j) && (noSet iter && (mI n T M tg iter i && (mT n (M.blk scope) tg t && (mE n T (M.blk scope) elt e &&
        (match ifs, cond with
        | [], none => true
        | [c], some b => mB n T (M.blk scope) c b
        | _, _ => false))))))
    | _, _ => false
def mF : Nat → Tab → Md → Expr → F → Bool
  | 0, _, _, _, _ => false
  | n + 1, T, M, e, f => match f with
    | .lst es' => (match e with
      | .List es _ => lenOk es' && mEs n T M es es'
      | _ => false)
    | .dct .nil .nil => (match e with
      | .Dict [] [] _ => true
      | _ => false)
    | .lc _ _ _ _ _ => (match e with
      | .ListComp elt gs scope _ => mLc n T M elt gs scope f
      | _ => false)
    | .of (.e a') => (match e with
      | .Call (.Name x _) [a] [] _ => isBlt T M x "list" && (noStar a && mE n T M a a')
      | _ => false)
    | .bin o a' b' => (match e with
      | .BinOp a op b _ => (decide (o = .add) || decide (o = .mul)) && (decide (op = bop o) && (mE n T M a a' && mE n T M b b'))
      | _ => false)
    | .srt a' => (match e with
      | .Call (.Name x _) [a] [] _ => isBlt T M x "sorted" && (noStar a && mE n T M a a')
      | _ => false)
    | .srtset a' => (match e with
      | .Call (.Name x _) [.Call (.Name y _) [a] [] _] [] _ => isBlt T M x "sorted" && (isBlt T M y "set" && (noStar a && mE n T M a a'))
      | _ => false)
    | _ => false
/-- tg: the target that stands ahead of it -/
def mI : Nat → Tab → Md → Expr → Expr → I → Bool
  | 0, _, _, _, _, _ => false
  | n + 1, T, M, tg, e, i => match i with
    | .e a' => mE n T M e a'
    | .r1 a' => (match e with
      | .Call (.Name x _) [a] [] _ => isBlt T M x "range" && (noStar a && mE n T M a a')
      | _ => false)
    | .r2 a' b' => (match e with
      | .Call (.Name x _) [a, b] [] _ => isBlt T M x "range" && (noStar a && (noStar b && (mE n T M a a' && mE n T M b b')))
      | _ => false)
    | .enum a' => (match e with
      | .Call (.Name x _) [a] [] _ => isTupE tg && (isBlt T M x "enumerate" && (noStar a && mE n T M a a'))
      | _ => false)
    | .zip a' b' => (match e with
      | .Call (.Name x _) [a, b] [] _ => isTupE tg && (isBlt T M x "zip" && (noStar a && (noStar b && (mE n T M a a' && mE n T M b b'))))
      | _ => false)
    | _ => false
end
/-- name = [..]: are the stores exchanged -/
def swB (M : Md) (scope : Scope) (y : Str) (py pos : Pos) : Bool := decide (M.sc.names.lookup y = some .local) && ((py.line == pos.line) && !(scope.names.any fun (n, k) => n == y && (k == .local || k == .cell)))
/-- several names: nothing is swapped -/
def foldB (vs : List Expr) : Bool := !vs.all (foldedForSure 8) && !vs.all (constantsAlone 8)
/-- targets and values of which the stores are not exchanged -/
def locE (M : Md) : Expr → Bool
  | .Name x _ => decide (M.sc.names.lookup x = some .local)
  | _ => false
def swN (M : Md) (ts : List Expr) (e : Expr) : Bool := match e with
  | .Tuple vs _ _ => !ts.all (locE M) || vs.all (foldedForSure 8)
  | _ => true
def locB (M : Md) (x : Str) (i : Nat) : Bool := decide (M.N[i]? = some x) && decide (M.sc.names.lookup x = some .local)
mutual
def mS : Nat → Tab → Md → Stmt → S → Bool
  | 0, _, _, _, _ => false
  | n + 1, T, M, st, s => match s with
    | .ex e' => (match st with
      | .Expr e _ => noComp e && mE n T M e e'
      | _ => false)
    | .set i e' => (match st with
      | .Assign [.Name x py] e _ => storeB M x i && (match e with
        | .ListComp elt gs scope pos => swB M scope x py pos && (match e' with
          | .fr f => mLc n T M elt gs scope f
          | .al f => mLc n T M elt gs scope f
          | _ => false)
        | _ => noComp e && mE n T M e e')
      | _ => false)
    | .own i f => (match st with
      | .Assign [.Name x py] e _ => storeB M x i && (match e with
        | .ListComp elt gs scope pos => swB M scope x py pos && mLc n T M elt gs scope f
        | _ => noComp e && mF n T M e f)
      | _ => false)
    | .unp t e' => (match st with
      | .Assign [.Tuple ts k p] e _ => swN M ts e && (noComp e && (mT n M (.Tuple ts k p) t && mE n T M e e'))
      | _ => false)
    | .par [i, j] [o1, o2] (.cons e1 (.cons e2 .nil)) => (match st with
      | .Assign [.Tuple [.Name x px, .Name y py] _ pt] (.Tuple [a, b] _ _) _ => locB M x i && (locB M y j && (!decide (i = j) && (!decide (x = y) && ((px.line == py.line) && (foldB [a, b] && (noStar a && (noStar b &&
          (mK n T M o1 a e1 && mK n T M o2 b e2))))))))
      | _ => false)
    | .aug i o e' => (match st with
      | .AugAssign (.Name x _) op e _ => storeB M x i && (!decide (o = .pow) && (decide (op = bop o) && mE n T M e e'))
      | _ => false)
    | .fld a' k v' => (match st with
      | .Assign [.Attribute a x _] v _ => decide (T.an[k]? = some x) && (noComp v && (mE n T M a a' && mE n T M v v'))
      | _ => false)
    | .faug a' k o v' => (match st with
      | .AugAssign (.Attribute a x _) op v _ => decide (T.an[k]? = some x) && (!decide (o = .pow) && (decide (op = bop o) && (mE n T M a a' && mE n T M v v')))
      | _ => false)
    | .six a' i' v' => (match st with
      | .Assign [.Subscript a i _] v _ => noSlice i && (noComp v && (mE n T M a a' && (mE n T M i i' && mE n T M v v')))
      | _ => false)
    | .iaug a' i' o v' => (match st with
      | .AugAssign (.Subscript a i _) op v _ => noSlice i && (!decide (o = .pow) && (decide (op = bop o) && (mE n T M a a' && (mE n T M i i' && mE n T M v v'))))
      | _ => false)
    | .osix x' i' v' => (match st with
      | .Assign [.Subscript a i _] v _ => noSlice i && (noComp v && (varB M a x' && (mE n T M i i' && mE n T M v v')))
      | _ => false)
    | .oaug x' i' o v' => (match st with
      | .AugAssign (.Subscript a i _) op v _ => noSlice i && (!decide (o = .pow) && (decide (op = bop o) && (varB M a x' && (mE n T M i i' && mE n T M v v'))))
      | _ => false)
    | .obm x' m es' => (match st with
      | .Expr (.Call (.Attribute o x apos) es [] pos) _ => decide (m = .append) && (decide (x = bmN m) && (varB M o x' && ((apos.endLine == pos.line) && (!es.isEmpty && (argsFew es && mEs n T M es es')))))
      | _ => false)
    | .iff c' a' b' => (match st with
      | .If c a b _ => mB n T M c c' && (mSs n T M a a' && mSs n T M b b')
      | _ => false)
    | .for t i' b' => (match st with
      | .For tg iter b [] _ => noSet iter && (mI n T M tg iter i' && (mT n M tg t && mSs n T M b b'))
      | _ => false)
    | .whl c' b' => (match st with
      | .While c b [] _ => mB n T M c c' && mSs n T M b b'
      | _ => false)
    | .ret e' => (match st with
      | .Return (some e) _ => mE n T M e e'
      | _ => false)
    | .retn => (match st with
      | .Return none _ => true
      | _ => false)
    | .raise c e' => (match st with
      | .Raise (some (.Call (.Name x _) [e] [] _)) none _ => isCls T M x c && (T.errs.contains c && (noStar e && mE n T M e e'))
      | _ => false)
    | .brk => (match st with
      | .Break _ => true
      | _ => false)
    | .cnt => (match st with
      | .Continue _ => true
      | _ => false)
    | .pass => (match st with
      | .Pass _ => true
      | _ => false)
    | _ => false
/-- one of several values: kept, or a fresh container that is owned -/
def mK : Nat → Tab → Md → Bool → Expr → E → Bool
  | 0, _, _, _, _, _ => false
  | n + 1, T, M, o, e, e' => match o with
    | true => (match e' with
      | .fr f => mF n T M e f
      | _ => false)
    | false => mE n T M e e'
def mSs : Nat → Tab → Md → List Stmt → Ss → Bool
  | 0, _, _, _, _ => false
  | n + 1, T, M, sts, ss => match ss with
    | .nil => sts.isEmpty
    | .cons (.frz _) r => mSs n T M sts r
    | .cons s r => (match sts with
      | st :: rest => mS n T M st s && mSs n T M rest r
      | [] => false)
end
end Mi
end
section
set_option autoImplicit false
set_option Elab.async false
set_option linter.all false
set_option maxRecDepth 100000
set_option maxHeartbeats 1600000
/-! What the matcher leans on; small facts. -/
namespace Mi
open PySem L2

/-- an error class, whatever reads it -/
structure ErrK (P : Program) (w : World) (K : PySem.W.Frag) (mg : Str → Option Value) (base : Heap) (C : Addr) : Prop where
  t : OexC K C
  nov : PySem.W.findIn K (.ref C) "value" = some none
  fn : ∃ (fI : Addr) (fd : FuncData) (ps : List Str), PySem.W.findIn K (.ref C) "__init__" = some (some (.ref fI)) ∧ PySem.W.typeIn K (.ref fI) = some (.type "function") ∧ FnOk P w K mg base (L2.CX P w) 1 fI fd ps (spErr K C) ∧ Binds K fd ps []
def GOk (P : Program) (w : World) (K : PySem.W.Frag) (mg : Str → Option Value) (L : Ln) (x : Str) : GK → Prop
  | .fn i => mg x = some (.ref (L.fad i))
  | .cls c => mg x = some (.ref (L.cad c))
  | .con d => ∃ u v, mg x = some u ∧ RelV v u ∧ ∀ wd, RepV P w K L wd d v
/-- `_law_refused`, as it stands -/
structure RfK (K : PySem.W.Frag) (mg : Str → Option Value) (L : Ln) (hs : List (Nat × List Nat)) where
  ga : Addr
  pg : Arguments
  sg : Scope
  {dV kV doc pm cdv ct oc : Value}
  {an od : Option Addr}
  {osl : Array (Option Value)}
  Ng : List Str
  a : Str
  n : Str
  i : Nat
  h0 : ExceptHandler
  hds : List ExceptHandler
  {j k1 : Nat}
  {p1 p2 p3 p4 p5 p6 p7 p8 : Pos}
  hm : mg "_law_refused" = some (.ref ga)
  hk : PySem.W.keepIn K (.ref ga) = true
  lk : K.lookup ga = some ⟨oc, od, .func (PySem.W.fnOf "_law_refused" "_law_refused" pg [.Try [.Expr (.Call (.Name a p1) [] [] p2) p3] (h0 :: hds) [] [] p4, .Return (some (.Tuple [.Constant (.str (Str.ofString "")) j p5, .Constant .none k1 p6] 0 p7)) p8] sg dV kV doc pm an cdv ct), osl⟩
  hcg : PySem.W.codeIn K cdv "_law_refused" = true
  hb : L2.Binds K (PySem.W.fnOf "_law_refused" "_law_refused" pg [.Try [.Expr (.Call (.Name a p1) [] [] p2) p3] (h0 :: hds) [] [] p4, .Return (some (.Tuple [.Constant (.str (Str.ofString "")) j p5, .Constant .none k1 p6] 0 p7)) p8] sg dV kV doc pm an cdv ct) [a] []
  Sg : FnScope Ng [a] sg
  hNg : Ng[0]? = some a
  hva : Vis sg a
  ha : nmOk a = true
  hn : nmOk n = true
  hni : Ng[i]? = some n
  hnl : sg.names.lookup n = some .local
  hh : ∀ X : Cx, X.mg = mg → Hds X n sg (h0 :: hds) (hlOf L hs)
structure Knw (P : Program) (w : World) (K : PySem.W.Frag) (mg : Str → Option Value) (base : Heap) (L : Ln) (call : CallT) (T : Tab) (k : Nat) where
  gT : T.g = L.g
  fd : Nat → FuncData
  ps : Nat → List Str
  fns : ∀ f fn, L.g.fns[f]? = some fn → FnG P w K mg base k (L.rp f) (L.fad f) (fd f) (ps f) (spD P w K L fn.np call f) ∧ Binds K (fd f) (ps f) [] ∧ PySem.W.keepIn K (.ref (L.fad f)) = true
  dead : ∀ f ds h, L.g.fns[f]? = none → call f ds h = .fail
  np : ∀ f fn ds h, L.g.fns[f]? = some fn → ds.length ≠ fn.np → call f ds h = .fail
  cls : ∀ c, c < L.g.cls.length → Cls K (L.cad c)
  keepc : ∀ c, c < L.g.cls.length → PySem.W.keepIn K (.ref (L.cad c)) = true
  meth : ∀ c cl m f, L.g.cls[c]? = some cl → mlook cl.meths m = some f → Meth K (L.cad c) (L.an m) (L.fad f)
  init : ∀ c cl f, L.g.cls[c]? = some cl → cl.init = some f → Mk K (L.cad c) (L.fad f)
  noat : ∀ c k, noMeth L.g c k = true → NoAttr K (L.cad c) (L.an k)
  inj : ∀ i j, L.an i = L.an j → i = j
  mrp : ∀ (c : Nat) (cl : Cl) (m f : Nat), L.g.cls[c]? = some cl → mlook cl.meths m = some f → L.rp f = false
  irp : ∀ (c : Nat) (cl : Cl) (f : Nat), L.g.cls[c]? = some cl → cl.init = some f → L.rp f = false
  rps : ∀ f, T.rp f = false → L.rp f = false
  isi : Isi K L
  glob : ∀ x g, T.glob.lookup x = some g → GOk P w K mg L x g
  free : ∀ x, T.free.contains x = true → mg x = none
  an : ∀ i s, T.an[i]? = some s → L.an i = s
  rep : L.g.rep = repD
  err : ∀ c, T.errs.contains c = true → ErrK P w K mg base (L.cad c)
  rfo : ∀ hs, L.g.rfs[0]? = some hs → RfOk K L hs
  rf : ∀ hs, L.g.rfs[0]? = some hs → RfK K mg L hs
/-- what a lambda asks of the def in which it is written -/
structure LamC (X : Cx) (L : Ln) (k : Nat) : Prop where
  room : Room (k + 3) X.A
  code : ∃ c P, X.env.code = .ref c ∧ LamX.TabB X.base X.mg c P ∧ (P, X.env.qual ++ "<lambda>") ∈ L.T ∧ ∀ p ∈ L.T, p.1 = P → p.2 = X.env.qual ++ "<lambda>"
structure Ctx (X : Cx) (L : Ln) (M : Md) (k : Nat) (W : WX) : Prop where
  calm : X.calm = true
  gd : M.gd = true → X.A.guards = some []
  room : Room (k + 1) X.A
  tk : Takes X W
  N : X.N = M.N
  nd : M.N.Nodup
  sc : X.env.scope = M.sc
  fn : X.fn = M.fn
  lam : M.lam = true → LamC X L k
/-- where statements stand -/
structure CtxS (X : Cx) (L : Ln) (M : Md) (k : Nat) (W : WX) : Prop extends Ctx X L M k W where
  own : PassesOwn (model X.prog X.w) X.A X.env X.xe
  room3 : Room 2 X.A
  kind : M.sc.kind = .function
abbrev KnwX (X : Cx) (L : Ln) (call : CallT) (T : Tab) (k : Nat) := Knw X.prog X.w X.K X.mg X.base L call T k
section
variable {X : Cx} {L : Ln} {call : CallT} {T : Tab} {k : Nat} {M : Md} {W : WX} {x y : Str} {e : Expr} {es : List Expr}
def Knw.lib (Q : KnwX X L call T k) : Lib X L call k := ⟨Q.fd, Q.ps, Q.fns, Q.dead, Q.np, Q.cls, Q.meth, Q.init, Q.noat, Q.inj, Q.mrp, Q.irp⟩
theorem Ctx.un (c : Ctx X L M k W) : X.A.units + 65 < cLine := by have := c.room.un; omega
theorem Ctx.un64 (c : Ctx X L M k W) : X.A.units + 64 < cLine := by have := c.room.un; omega
theorem Ctx.un16 (c : Ctx X L M k W) : X.A.units + 16 < cLine := by have := c.room.un; omega
theorem and2 {a b : Bool} (h : (a && b) = true) : a = true ∧ b = true := Bool.and_eq_true_iff.mp h
theorem ntr {a : Bool} (h : (!a) = true) : a = false := by cases a; rfl; cases h
theorem star_ok (env : Env) (h : noStar e = true) : starEach (e :: es) env = (false, eval e env) :: starEach es env := by
  cases e <;> first | rfl | (cases h)
theorem stars_ok (env : Env) (pos : Pos) : ∀ {es : List Expr}, es.all noStar = true → (backTo pos (starEach es env)).any (·.1) = false
  | [], _ => rfl
  | e :: es, h => by
    rw [List.all_cons] at h
    obtain ⟨h1, h2⟩ := and2 h
    rw [star_ok env h1]
    show (false || (backTo pos (starEach es env)).any (·.1)) = false
    rw [stars_ok env pos h2] <;> rfl
theorem stars_all (env : Env) (pos : Pos) : ∀ {es : List Expr}, es.all noStar = true → (backTo pos (starEach es env)).all (fun x => !x.1) = true
  | [], _ => rfl
  | e :: es, h => by
    rw [List.all_cons] at h
    obtain ⟨h1, h2⟩ := and2 h
    rw [star_ok env h1]
    show (true && (backTo pos (starEach es env)).all (fun x => !x.1)) = true
    rw [stars_all env pos h2] <;> rfl
theorem gl_of (c : Ctx X L M k W) (h : glB M.sc x = true) : Gl X x ∧ (x == ("__debug__" : Str)) = false := by
  obtain ⟨h1, h2⟩ := and2 h
  refine ⟨?_, ntr h2⟩
  show X.env.scope.names.lookup x = _
  rw [c.sc]
  exact of_decide_eq_true h1
theorem blt_of (c : Ctx X L M k W) (Q : KnwX X L call T k) (h : isBlt T M x y = true) : x = y ∧ Gl X x ∧ X.mg x = none ∧ (x == ("__debug__" : Str)) = false := by
  obtain ⟨h1, h2⟩ := and2 h
  obtain ⟨h2, h3⟩ := and2 h2
  obtain ⟨g1, g2⟩ := gl_of c h2
  exact ⟨of_decide_eq_true h1, g1, Q.free x h3, g2⟩
theorem fnn_of (c : Ctx X L M k W) (Q : KnwX X L call T k) {f : Nat} (h : isFn T M x f = true) : Gl X x ∧ X.mg x = some (.ref (L.fad f)) ∧ (x == ("__debug__" : Str)) = false := by
  obtain ⟨h1, h2⟩ := and2 h
  obtain ⟨g1, g2⟩ := gl_of c h1
  exact ⟨g1, Q.glob x _ (of_decide_eq_true h2), g2⟩
theorem cls_of (c : Ctx X L M k W) (Q : KnwX X L call T k) {f : Nat} (h : isCls T M x f = true) : Gl X x ∧ X.mg x = some (.ref (L.cad f)) ∧ (x == ("__debug__" : Str)) = false := by
  obtain ⟨h1, h2⟩ := and2 h
  obtain ⟨g1, g2⟩ := gl_of c h1
  exact ⟨g1, Q.glob x _ (of_decide_eq_true h2), g2⟩
theorem vis_of {sc : Scope} (h : visB sc x = true) : Vis sc x := by
  unfold visB at h
  unfold Vis
  cases q : sc.names.lookup x with
  | none => rw [q] at h; cases h
  | some z =>
    rw [q] at h
    cases z with
    | «local» => exact .inl rfl
    | cell => exact .inr (.inl rfl)
    | free => exact .inr (.inr rfl)
    | _ => cases h
theorem nm_of (h : nmOk x = true) : (x == ("__debug__" : Str)) = false ∧ (x == ("__classdict__" : Str)) = false := ⟨ntr (and2 h).1, ntr (and2 h).2⟩
theorem set_ok (h : noSet e = true) (env : Env) (v : Value) : foldedSetIterable e env v = pure v := by
  cases e <;> first | rfl | (cases h)
theorem comp_ok (h : noComp e = true) (t : Option Expr) (l : Nat) (env : Env) : swapsWith e t l env = pure false := by
  cases e <;> first | rfl | (cases h)
theorem slice_ok (h : noSlice e = true) : PlainIx e := by
  intro o i
  cases e <;> first | rfl | (cases h)
theorem base_ok (h : baseB e = true) (f : Str) (env : Env) : attributeBase e f env (eval e env) = eval e env := by
  cases e <;> first | rfl | (cases h)
theorem test_ok (h : plainTest e = true) (env : Env) (whole : Sem Value) : isTrue e env whole = (do let v ← whole; standAt e.pos; holding [v] (truthy v)) := by
  cases e <;> first | rfl | (cases h)
theorem few_ok (env : Env) (pos : Pos) (h : argsFew es = true) : ((backTo pos (starEach es env)).all (fun x => !x.1) && (backToKw pos (keywordEach [] env)).all (fun x => x.1.isSome)
      && decide (es.length + ([] : List Keyword).length + (if ([] : List Keyword).isEmpty then 0 else 1) < 30)) = true := by
  obtain ⟨h1, h2⟩ := and2 h
  have h1 := of_decide_eq_true h1
  rw [stars_all env pos h2, Bool.true_and, Bool.and_eq_true]
  refine ⟨rfl, decide_eq_true ?_⟩
  simp
  omega
theorem name_ok (h : varB M e k = true) : ∃ x pos, e = .Name x pos ∧ M.N[k]? = some x ∧ Vis M.sc x ∧ nmOk x = true := by
  unfold varB at h
  cases e with
  | Name x pos =>
    obtain ⟨h1, h2⟩ := and2 h
    obtain ⟨h2, h3⟩ := and2 h2
    exact ⟨x, pos, rfl, of_decide_eq_true h1, vis_of h2, h3⟩
  | _ => cases h
theorem var_ok (c : Ctx X L M k W) {i : Nat} (h : varB M e i = true) : PE X e (tVar i) := by
  obtain ⟨x, pos, rfl, h1, h2, h3⟩ := name_ok h
  exact pe_var (by rw [c.N]; exact h1) (by rw [c.sc]; exact h2) (nm_of h3).1 (nm_of h3).2
end
end Mi
end
section
set_option autoImplicit false
set_option Elab.async false
set_option linter.all false
set_option maxRecDepth 100000
set_option maxHeartbeats 1600000
/-! The matcher is sound: targets, expressions. -/
namespace Mi
open PySem L2
section
variable {X : Cx} {L : Ln} {call : CallT} {T : Tab} {k : Nat} {M : Md} {W : WX}
/-! ### targets -/
theorem store_of (c : Ctx X L M k W) {x : Str} {i : Nat} (h : storeB M x i = true) : X.N[i]? = some x ∧ Loc X.env.scope x ∧ (X.fn x = true ∨ X.env.scope.names.lookup x = some .local) := by
  obtain ⟨h1, h2⟩ := and2 h
  rw [c.N, c.sc, c.fn]
  refine ⟨of_decide_eq_true h1, ?_⟩
  rcases Bool.or_eq_true_iff.mp h2 with z | z
  · have := of_decide_eq_true z
    exact ⟨.inl this, .inr this⟩
  · obtain ⟨z1, z2⟩ := and2 z
    exact ⟨.inr (of_decide_eq_true z2), .inl z1⟩
theorem sT : ∀ n : Nat, (∀ {e : Expr} {t : Mi.T}, Ctx X L M k W → mT n M e t = true → PG X e (RdT (sy X L) t)) ∧
    (∀ {es : List Expr} {ts : List Mi.T}, Ctx X L M k W → mTs n M es ts = true → PGs X es (RdTs (sy X L) ts) ∧ (assignEach es X.env).length = ts.length ∧ (assignEach es X.env).findIdx? (·.1) = none)
  | 0 => ⟨(fun {e t} _ h => by unfold mT at h; cases h), (fun {es ts} _ h => by unfold mTs at h; cases h)⟩
  | n + 1 => by
    obtain ⟨i1, i2⟩ := sT n
    refine ⟨fun {e t} c h => ?_, fun {es ts} c h => ?_⟩
    · cases t with
      | v i =>
        unfold mT at h
        dsimp only at h
        cases e with
        | Name x pos =>
          obtain ⟨a, b, d⟩ := store_of c h
          exact rt_v (pg_name (by rw [c.N]; exact c.nd) a b d)
        | _ => cases h
      | t ts =>
        unfold mT at h
        dsimp only at h
        cases e with
        | Tuple es kk pos =>
          obtain ⟨a, b, d⟩ := i2 c h
          exact rt_t c.calm a b d
        | _ => cases h
    · cases es with
      | nil =>
        cases ts with
        | nil => exact ⟨rts_nil, rfl, rfl⟩
        | cons t ts => unfold mTs at h; cases h
      | cons e es =>
        cases ts with
        | nil => unfold mTs at h; cases h
        | cons t ts =>
          unfold mTs at h
          dsimp only at h
          obtain ⟨h1, h2⟩ := and2 h
          obtain ⟨h2, h3⟩ := and2 h2
          obtain ⟨a, b, d⟩ := i2 c h3
          have ea : assignEach (e :: es) X.env = (false, assign e X.env) :: assignEach es X.env := by
            cases e <;> first | rfl | (cases h1)
          refine ⟨rts_cons (i1 c h2) a (by rw [ea] <;> rfl), by rw [ea, List.length_cons, b] <;> rfl, ?_⟩
          rw [ea, List.findIdx?_cons, d] <;> rfl
/-! ### operators by name -/
theorem cmp_all (o : Cmp) (c : Ctx X L M k W) : OpR X (compareOp (cop o)) (RV2 (sy X L) fun x y h => cmpD o x y h) := by
  cases o with
  | eq => exact op_eq_rep c.un64
  | ne => exact op_ne_rep c.un64
  | lt => exact op_ord_rep (o := .lt) (.inl rfl) c.un64
  | le => exact op_ord_rep (o := .le) (.inr (.inl rfl)) c.un64
  | gt => exact op_ord_rep (o := .gt) (.inr (.inr (.inl rfl))) c.un64
  | ge => exact op_ord_rep (o := .ge) (.inr (.inr (.inr rfl))) c.un64
  | is => exact op_is_rep
  | isn => exact op_isn_rep
  | «in» => exact op_in_rep false c.un
  | nin => exact op_in_rep true c.un
theorem un_all (o : UOp) : UnR X (unaryOp (uop o)) (RV1 (sy X L) (unD o)) := by
  cases o with
  | neg => exact u_neg
  | not => exact u_not
theorem strV_const {a : Str} {b : List Nat} (h : a = strV b) : V.str a = V.str (strV b) := by rw [h]
theorem const_ok {e : Expr} {d : D} (h : constB e d = true) : PE X e (RdE (sy X L) call W (.c d)) := by
  unfold constB at h
  cases e with
  | Constant c j pos =>
    cases c with
    | none =>
      cases d with
      | non => exact rd_c pe_non fun _ => by rw [RepV]
      | _ => cases h
    | bool a =>
      cases d with
      | bl b =>
        have e1 : a = b := eq_of_beq h
        subst e1
        exact rd_c pe_bl fun _ => by rw [RepV]
      | _ => cases h
    | int a =>
      cases d with
      | int b =>
        have e1 : a = b := of_decide_eq_true h
        subst e1
        exact rd_c pe_int fun _ => by rw [RepV]
      | _ => cases h
    | str a =>
      cases d with
      | str b =>
        have e1 : a = strV b := of_decide_eq_true h
        subst e1
        exact rd_c pe_str fun _ => by rw [RepV]
      | _ => cases h
    | _ => cases d <;> cases h
  | _ => cases d <;> cases h
theorem glob_ok (Q : KnwX X L call T k) (c : Ctx X L M k W) {e : Expr} {d : D} {j : Nat} (h : globB T M e d = true) : PE X e (RdE (sy X L) call W (.g j d)) := by
  unfold globB at h
  cases e with
  | Name x pos =>
    obtain ⟨h1, h2⟩ := and2 h
    obtain ⟨g1, g2⟩ := gl_of c h1
    cases q : T.glob.lookup x with
    | none => rw [q] at h2; cases h2
    | some g =>
      rw [q] at h2
      have ok := Q.glob x g q
      cases g with
      | con c' =>
        have ec : c' = d := of_decide_eq_true h2
        subst ec
        obtain ⟨u, v, e1, e2, e3⟩ := ok
        exact rd_g (pe_glob g1 e1 e2 g2) e3
      | fn i =>
        have ec : d = .fn i := of_decide_eq_true h2
        subst ec
        exact rd_g (v := .ref (L.fad i)) (pe_glob g1 ok rfl g2) fun _ => by rw [RepV]
      | cls i =>
        have ec : d = .cls i := of_decide_eq_true h2
        subst ec
        exact rd_g (v := .ref (L.cad i)) (pe_glob g1 ok rfl g2) fun _ => by rw [RepV]
  | _ => cases h
theorem tyStr (n : Nat) (h : n ≤ 5) : bootBuiltins (Str.ofString (tyName n)) = some (.type (tyName n)) ∧ Str.ofString (tyName n) ≠ "__name__" := by
  rcases ty_cases h with rfl | rfl | rfl | rfl | rfl | rfl <;> exact ⟨by rfl, by decide +kernel⟩
theorem ty_ok (Q : KnwX X L call T k) (c : Ctx X L M k W) {e : Expr} {t : D} (h : tyB T M e t = true) : tOk L t ∧ PE X e (tC (tyVV L t)) := by
  unfold tyB at h
  cases e with
  | Name x pos =>
    cases t with
    | ty n =>
      obtain ⟨h1, h2⟩ := and2 h
      have h1 := of_decide_eq_true h1
      obtain ⟨rfl, g1, g2, g3⟩ := blt_of c Q h2
      exact ⟨h1, pe_bltn (v := .ty (tyName n)) (u := .type (tyName n)) g1 g2 (tyStr n h1).1 rfl (tyStr n h1).2 g3⟩
    | cls i =>
      obtain ⟨h1, h2⟩ := and2 h
      have h1 := of_decide_eq_true h1
      obtain ⟨g1, g2, g3⟩ := cls_of c Q h2
      exact ⟨show i < L.g.cls.length from by rw [← Q.gT]; exact h1, pe_glob (v := .ref (L.cad i)) g1 g2 rfl g3⟩
    | _ => cases h
  | _ => cases h
theorem tys_ok (Q : KnwX X L call T k) (c : Ctx X L M k W) : ∀ {es : List Expr} {ts : List D}, tysB T M es ts = true → (∀ t ∈ ts, tOk L t) ∧ PA X es (fun _ H R => R (ts.map (tyVV L)) H)
  | [], [], _ => ⟨(fun _ z => nomatch z), pa_nil.impM fun _ _ _ h => h⟩
  | [], _ :: _, h => by cases h
  | _ :: _, [], h => by cases h
  | e :: es, t :: ts, h => by
    obtain ⟨h1, h2⟩ := and2 (show (noStar e && (tyB T M e t && tysB T M es ts)) = true from h)
    obtain ⟨h2, h3⟩ := and2 h2
    obtain ⟨a1, a2⟩ := ty_ok Q c h2
    obtain ⟨b1, b2⟩ := tys_ok Q c h3
    refine ⟨fun u hu => ?_, (pa_cons a2 b2 (star_ok _ h1)).impM fun _ _ _ h => h⟩
    rcases List.mem_cons.mp hu with z | z
    · rw [z]; exact a1
    · exact b1 u z
end
end Mi
end
section
set_option autoImplicit false
set_option Elab.async false
set_option linter.all false
set_option maxRecDepth 100000
set_option maxHeartbeats 3200000
/-! The matcher is sound: expressions, tests, fresh containers, what is walked. -/
namespace Mi
open PySem L2
section
variable (X : Cx) (L : Ln) (call : CallT) (M : Md) (W : WX)
/-- the parts of a comprehension -/
def LcR (elt : Expr) (gs : List Comprehension) (scope : Scope) (f : F) : Prop := ∃ tg iter ifs own t i cond e', gs = [⟨tg, iter, ifs, 0⟩] ∧ f = .lc own t i cond e' ∧ own = (ownOf M.N own).map (·.2) ∧ PI X tg iter (RdI (sy X L) call W i) ∧ BlkOk X.N X.env.scope scope (ownOf M.N own) ∧
  (∀ (s : Shared) (H : Hp) (C : Addr) (cl : List (Str × Addr)) (fp : List Addr), PG (X.blk s H scope (compEnvC scope cl C X.env) fp) tg (RdT (sy X L) t)) ∧
  (∀ (s : Shared) (H : Hp) (C : Addr) (cl : List (Str × Addr)) (fp : List Addr), PTs (X.blk s H scope (compEnvC scope cl C X.env) fp) ifs (RdOB (sy X L) call W0 cond)) ∧
  (∀ (s : Shared) (H : Hp) (C : Addr) (cl : List (Str × Addr)) (fp : List Addr), PE (X.blk s H scope (compEnvC scope cl C X.env) fp) elt (RdV (sy X L) call W0 e')) ∧
  (∀ j ∈ t.slots, j ∈ (ownOf M.N own).map (·.2)) ∧ ∀ x, foldedSetIterable iter X.env x = pure x
end
structure Snd (T : Tab) (n : Nat) : Prop where
  e : ∀ {X : Cx} {L : Ln} {call : CallT} {k : Nat} {M : Md} {W : WX} {e : Expr} {e' : E}, KnwX X L call T k → Ctx X L M k W → mE n T M e e' = true → PE X e (RdE (sy X L) call W e')
  and_ : ∀ {X : Cx} {L : Ln} {call : CallT} {k : Nat} {M : Md} {W : WX} {vs : List Expr} {e' : E}, KnwX X L call T k → Ctx X L M k W → mAnd n T M vs e' = true → ∀ pos, PE X (.BoolOp .And vs pos) (RdE (sy X L) call W e')
  or_ : ∀ {X : Cx} {L : Ln} {call : CallT} {k : Nat} {M : Md} {W : WX} {vs : List Expr} {e' : E}, KnwX X L call T k → Ctx X L M k W → mOr n T M vs e' = true → ∀ pos, PE X (.BoolOp .Or vs pos) (RdE (sy X L) call W e')
  es : ∀ {X : Cx} {L : Ln} {call : CallT} {k : Nat} {M : Md} {W : WX} {es : List Expr} {es' : Es}, KnwX X L call T k → Ctx X L M k W → mEs n T M es es' = true → PA X es (RdA (sy X L) call W es') ∧ PA X es (RdP (sy X L) call W es')
  o : ∀ {X : Cx} {L : Ln} {call : CallT} {k : Nat} {M : Md} {W : WX} {a : Option Expr} {a' : Option E}, KnwX X L call T k → Ctx X L M k W → mO n T M a a' = true → PO X a (RdO (sy X L) call W a')
  b : ∀ {X : Cx} {L : Ln} {call : CallT} {k : Nat} {M : Md} {W : WX} {e : Expr} {b : B}, KnwX X L call T k → Ctx X L M k W → mB n T M e b = true → PT X e (RdB (sy X L) call W b)
  andb : ∀ {X : Cx} {L : Ln} {call : CallT} {k : Nat} {M : Md} {W : WX} {vs : List Expr} {b : B}, KnwX X L call T k → Ctx X L M k W → mAndB n T M vs b = true → ∀ pos, PW X (.BoolOp .And vs pos) (RdB (sy X L) call W b)
  orb : ∀ {X : Cx} {L : Ln} {call : CallT} {k : Nat} {M : Md} {W : WX} {vs : List Expr} {b : B}, KnwX X L call T k → Ctx X L M k W → mOrB n T M vs b = true → ∀ pos, PW X (.BoolOp .Or vs pos) (RdB (sy X L) call W b)
  lc : ∀ {X : Cx} {L : Ln} {call : CallT} {k : Nat} {M : Md} {W : WX} {elt : Expr} {gs : List Comprehension} {scope : Scope} {f : F}, KnwX X L call T k → Ctx X L M k W → mLc n T M elt gs scope f = true → LcR X L call M W elt gs scope f
  f : ∀ {X : Cx} {L : Ln} {call : CallT} {k : Nat} {M : Md} {W : WX} {e : Expr} {f : F}, KnwX X L call T k → Ctx X L M k W → mF n T M e f = true → PE X e (RdF (sy X L) call W f)
  i : ∀ {X : Cx} {L : Ln} {call : CallT} {k : Nat} {M : Md} {W : WX} {tg e : Expr} {i : I}, KnwX X L call T k → Ctx X L M k W → mI n T M tg e i = true → PI X tg e (RdI (sy X L) call W i)
theorem snd0 (T : Tab) : Snd T 0 where
  e := fun _ _ h => by unfold mE at h; cases h
  and_ := fun _ _ h => by unfold mAnd at h; cases h
  or_ := fun _ _ h => by unfold mOr at h; cases h
  es := fun _ _ h => by unfold mEs at h; cases h
  o := fun _ _ h => by unfold mO at h; cases h
  b := fun _ _ h => by unfold mB at h; cases h
  andb := fun _ _ h => by unfold mAndB at h; cases h
  orb := fun _ _ h => by unfold mOrB at h; cases h
  lc := fun _ _ h => by unfold mLc at h; cases h
  f := fun _ _ h => by unfold mF at h; cases h
  i := fun _ _ h => by unfold mI at h; cases h
section
variable {X : Cx} {L : Ln} {call : CallT} {T : Tab} {k n : Nat} {M : Md} {W : WX} {e : Expr}
theorem se_and (ih : Snd T n) {vs : List Expr} {e' : E} (Q : KnwX X L call T k) (c : Ctx X L M k W) (h : mAnd (n + 1) T M vs e' = true) (pos : Pos) : PE X (.BoolOp .And vs pos) (RdE (sy X L) call W e') := by
  unfold mAnd at h
  match vs, h with
  | [b], h => exact pe_one (ih.e Q c h)
  | a :: b :: r, h =>
    cases e' with
    | and a' b' =>
      obtain ⟨h1, h2⟩ := and2 h
      exact rd_and (ih.e Q c h1) (rdV_of (ih.and_ Q c h2 pos))
    | _ => cases h
theorem se_or (ih : Snd T n) {vs : List Expr} {e' : E} (Q : KnwX X L call T k) (c : Ctx X L M k W) (h : mOr (n + 1) T M vs e' = true) (pos : Pos) : PE X (.BoolOp .Or vs pos) (RdE (sy X L) call W e') := by
  unfold mOr at h
  match vs, h with
  | [b], h => exact pe_one (ih.e Q c h)
  | a :: b :: r, h =>
    cases e' with
    | or a' b' =>
      obtain ⟨h1, h2⟩ := and2 h
      exact rd_or (ih.e Q c h1) (rdV_of (ih.or_ Q c h2 pos))
    | _ => cases h
theorem se_es (ih : Snd T n) {es : List Expr} {es' : Es} (Q : KnwX X L call T k) (c : Ctx X L M k W) (h : mEs (n + 1) T M es es' = true) : PA X es (RdA (sy X L) call W es') ∧ PA X es (RdP (sy X L) call W es') := by
  unfold mEs at h
  match es, es', h with
  | [], .nil, h => exact ⟨ra_nil, rp_nil⟩
  | a :: r, .cons a' r', h =>
    obtain ⟨h1, h2⟩ := and2 h
    obtain ⟨h2, h3⟩ := and2 h2
    have he := ih.e Q c h2
    obtain ⟨p1, p2⟩ := ih.es Q c h3
    exact ⟨ra_cons he p1 (star_ok _ h1), rp_cons he p2 (star_ok _ h1)⟩
theorem se_o (ih : Snd T n) {a : Option Expr} {a' : Option E} (Q : KnwX X L call T k) (c : Ctx X L M k W) (h : mO (n + 1) T M a a' = true) : PO X a (RdO (sy X L) call W a') := by
  unfold mO at h
  match a, a', h with
  | none, none, h => exact ro_none
  | some a, some a', h => exact ro_some (ih.e Q c h)
theorem se_andb (ih : Snd T n) {vs : List Expr} {b : B} (Q : KnwX X L call T k) (c : Ctx X L M k W) (h : mAndB (n + 1) T M vs b = true) (pos : Pos) : PW X (.BoolOp .And vs pos) (RdB (sy X L) call W b) := by
  unfold mAndB at h
  match vs, h with
  | [b], h => exact pw_and1 (ih.b Q c h)
  | a :: d :: r, h =>
    cases b with
    | and a' b' =>
      obtain ⟨h1, h2⟩ := and2 h
      exact rb_and (ih.b Q c h1) (ih.andb Q c h2 pos)
    | _ => cases h
theorem se_orb (ih : Snd T n) {vs : List Expr} {b : B} (Q : KnwX X L call T k) (c : Ctx X L M k W) (h : mOrB (n + 1) T M vs b = true) (pos : Pos) : PW X (.BoolOp .Or vs pos) (RdB (sy X L) call W b) := by
  unfold mOrB at h
  match vs, h with
  | [b], h => exact pw_or1 (ih.b Q c h)
  | a :: d :: r, h =>
    cases b with
    | or a' b' =>
      obtain ⟨h1, h2⟩ := and2 h
      exact rb_or (ih.b Q c h1) (ih.orb Q c h2 pos)
    | _ => cases h
theorem se_be (ih : Snd T n) {e' : E} (Q : KnwX X L call T k) (c : Ctx X L M k W) (h1 : plainTest e = true) (h2 : mE n T M e e' = true) : PT X e (RdB (sy X L) call W (.e e')) :=
  rb_e tru_rep (ih.e Q c h2) (test_ok h1 _)
theorem se_b (ih : Snd T n) {b : B} (Q : KnwX X L call T k) (c : Ctx X L M k W) (h : mB (n + 1) T M e b = true) : PT X e (RdB (sy X L) call W b) := by
  unfold mB at h
  cases b with
  | e e' =>
    dsimp only at h
    split at h
    · split at h
      · rename_i op d _ _ o a' c'
        obtain ⟨h1, h2⟩ := and2 h
        obtain ⟨h2, h3⟩ := and2 h2
        obtain ⟨h3, h4⟩ := and2 h3
        have h1 := of_decide_eq_true h1
        subst h1
        exact rb_cmp (cmp_all o c) (ih.e Q c h3) (ih.e Q c h4) (ntr h2)
      · cases h
    · obtain ⟨h1, h2⟩ := and2 h
      exact se_be ih Q c h1 h2
  | and a' b' =>
    dsimp only at h
    split at h
    · exact (ih.andb Q c h _).pt
    · cases h
  | or a' b' =>
    dsimp only at h
    split at h
    · exact (ih.orb Q c h _).pt
    · cases h
  | not a' =>
    dsimp only at h
    split at h
    · exact rb_not (ih.b Q c h)
    · cases h
end
end Mi
end
section
set_option autoImplicit false
set_option Elab.async false
set_option linter.all false
set_option maxRecDepth 100000
set_option maxHeartbeats 3200000
/-! The matcher is sound: comprehensions, fresh containers, what is walked. -/
namespace Mi
open PySem L2
section
variable {X : Cx} {L : Ln} {call : CallT} {T : Tab} {k n : Nat} {M : Md} {W : WX} {e : Expr}
theorem blk_ctx (c : Ctx X L M k W) (s : Shared) (H : Hp) (scope : Scope) (C : Addr) (cl : List (Str × Addr)) (fp : List Addr) : Ctx (X.blk s H scope (compEnvC scope cl C X.env) fp) L (M.blk scope) k W0 where
  calm := c.calm
  gd := c.gd
  room := c.room
  tk := LamX.takes0
  N := c.N
  nd := c.nd
  sc := by
    show relS scope X.env.scope = relS scope M.sc
    rw [c.sc]
  fn := rfl
  lam := fun z => nomatch z
theorem all_mem {α : Type} {l : List α} {p : α → Bool} (h : l.all p = true) : ∀ x ∈ l, p x = true := List.all_eq_true.mp h
theorem or2 {a b : Bool} (h : (a || b) = true) : a = true ∨ b = true := Bool.or_eq_true_iff.mp h
theorem blk_of (c : Ctx X L M k W) {scope : Scope} {own : List (Str × Nat)} (h : blkB M.N M.sc scope own = true) : BlkOk X.N X.env.scope scope own := by
  rw [c.N, c.sc]
  obtain ⟨h1, h⟩ := and2 h
  obtain ⟨h2, h⟩ := and2 h
  obtain ⟨h3, h⟩ := and2 h
  obtain ⟨h4, h5⟩ := and2 h
  refine ⟨of_decide_eq_true h1, fun y hy => of_decide_eq_true (all_mem h2 y hy), fun p hp => of_decide_eq_true (all_mem h3 p hp), fun y hy e => ?_, fun y hy e => ?_⟩
  · have := all_mem h4 y hy
    rcases or2 this with z | z
    · rw [decide_eq_true e] at z; cases z
    · rcases or2 z with z | z
      · exact .inl (of_decide_eq_true z)
      · exact .inr (of_decide_eq_true z)
  · have := all_mem h5 y hy
    rcases or2 this with z | z
    · rcases e with e | e <;> (rw [decide_eq_true e] at z; simp at z)
    · rcases or2 z with z | z
      · left
        simpa using z
      · right
        simpa using z
theorem own_map (N : List Str) (own : List Nat) : own = (ownOf N own).map (·.2) := by
  unfold ownOf
  rw [List.map_map]
  exact (List.map_id own).symm
theorem se_lc (ih : Snd T n) {elt : Expr} {gs : List Comprehension} {scope : Scope} {f : F} (Q : KnwX X L call T k) (c : Ctx X L M k W) (h : mLc (n + 1) T M elt gs scope f = true) : LcR X L call M W elt gs scope f := by
  unfold mLc at h
  split at h
  · rename_i tg iter ifs own t i cond e'
    obtain ⟨h1, h⟩ := and2 h
    obtain ⟨h2, h⟩ := and2 h
    obtain ⟨h3, h⟩ := and2 h
    obtain ⟨h4, h⟩ := and2 h
    obtain ⟨h5, h⟩ := and2 h
    obtain ⟨h6, h⟩ := and2 h
    refine ⟨tg, iter, ifs, own, t, i, cond, e', rfl, rfl, own_map _ _, ih.i Q c h4, blk_of c h1, fun s H C cl fp => (sT n).1 (blk_ctx c s H scope C cl fp) h5, fun s H C cl fp => ?_, fun s H C cl fp => ?_, fun j hj => ?_, set_ok h3 _⟩
    · have cb := blk_ctx c s H scope C cl fp
      have Qb : KnwX (X.blk s H scope (compEnvC scope cl C X.env) fp) L call T k := Q
      split at h
      · exact rob_none
      · exact rob_some (ih.b Qb cb h)
      · cases h
    · have cb := blk_ctx c s H scope C cl fp
      have Qb : KnwX (X.blk s H scope (compEnvC scope cl C X.env) fp) L call T k := Q
      exact rdV_of (ih.e Qb cb h6)
    · rw [← own_map]
      simpa using all_mem h2 j hj
  · cases h
theorem rf_lcR {elt : Expr} {gs : List Comprehension} {scope : Scope} {f : F} {pos : Pos} (c : Ctx X L M k W) (r : LcR X L call M W elt gs scope f) : PE X (.ListComp elt gs scope pos) (RdF (sy X L) call W f) := by
  obtain ⟨tg, iter, ifs, own, t, i, cond, e', rfl, rfl, eo, r1, r2, r3, r4, r5, r6, r7⟩ := r
  rw [eo]
  exact rf_lc c.calm (by rw [c.N]; exact c.nd) r1 r2 r3 r4 r5 r6 r7
theorem opf_all {o : Bin} (h : (decide (o = .add) || decide (o = .mul)) = true) : OpR X (binaryOp (bop o)) (RF2 (sy X L) fun x y h => binF o x y h) := by
  rcases or2 h with z | z
  · have := of_decide_eq_true z
    subst this
    exact opf_cat
  · have := of_decide_eq_true z
    subst this
    exact opf_rep
theorem se_f (ih : Snd T n) {f : F} (Q : KnwX X L call T k) (c : Ctx X L M k W) (h : mF (n + 1) T M e f = true) : PE X e (RdF (sy X L) call W f) := by
  unfold mF at h
  split at h
  · -- [..]
    split at h
    · obtain ⟨h1, h2⟩ := and2 h
      exact rf_lst (ih.es Q c h2).1 (of_decide_eq_true h1)
    · cases h
  · split at h
    · exact rf_dct0
    · cases h
  · split at h
    · exact rf_lcR c (ih.lc Q c h)
    · cases h
  · split at h
    · obtain ⟨h1, h2⟩ := and2 h
      obtain ⟨h2, h3⟩ := and2 h2
      obtain ⟨rfl, g1, g2, g3⟩ := blt_of c Q h1
      exact rf_of c.calm g1 g2 (ih.e Q c h3) (star_ok _ h2)
    · cases h
  · split at h
    · obtain ⟨h1, h2⟩ := and2 h
      obtain ⟨h2, h3⟩ := and2 h2
      obtain ⟨h3, h4⟩ := and2 h3
      have h2 := of_decide_eq_true h2
      subst h2
      exact rf_bin (opf_all h1) (ih.e Q c h3) (ih.e Q c h4)
    · cases h
  · split at h
    · obtain ⟨h1, h2⟩ := and2 h
      obtain ⟨h2, h3⟩ := and2 h2
      obtain ⟨rfl, g1, g2, g3⟩ := blt_of c Q h1
      exact rf_srt rfl g1 g2 (ih.e Q c h3) (star_ok _ h2) g3
    · cases h
  · split at h
    · obtain ⟨h1, h2⟩ := and2 h
      obtain ⟨h2, h3⟩ := and2 h2
      obtain ⟨h3, h4⟩ := and2 h3
      obtain ⟨rfl, g1, g2, g3⟩ := blt_of c Q h1
      obtain ⟨rfl, k1, k2, k3⟩ := blt_of c Q h2
      exact rf_srtset c.calm g1 g2 k1 k2 (ih.e Q c h4) (star_ok _ h3) rfl
    · cases h
  · cases h
theorem star1 {a : Expr} (env : Env) (h : noStar a = true) : starEach [a] env = [(false, eval a env)] := star_ok env h
theorem se_i (ih : Snd T n) {tg : Expr} {i : I} (Q : KnwX X L call T k) (c : Ctx X L M k W) (h : mI (n + 1) T M tg e i = true) : PI X tg e (RdI (sy X L) call W i) := by
  unfold mI at h
  split at h
  · exact ri_e (ih.e Q c h)
  · split at h
    · obtain ⟨h1, h2⟩ := and2 h
      obtain ⟨h2, h3⟩ := and2 h2
      obtain ⟨rfl, g1, g2, g3⟩ := blt_of c Q h1
      exact ri_r1 g1 g2 (ih.e Q c h3) (star1 _ h2)
    · cases h
  · split at h
    · obtain ⟨h1, h2⟩ := and2 h
      obtain ⟨h2, h3⟩ := and2 h2
      obtain ⟨h3, h4⟩ := and2 h3
      obtain ⟨h4, h5⟩ := and2 h4
      obtain ⟨rfl, g1, g2, g3⟩ := blt_of c Q h1
      exact ri_r2 g1 g2 (ih.e Q c h4) (ih.e Q c h5) (star1 _ h3) (star_ok _ h2)
    · cases h
  · split at h
    · obtain ⟨h0, h1⟩ := and2 h
      obtain ⟨h1, h2⟩ := and2 h1
      obtain ⟨h2, h3⟩ := and2 h2
      obtain ⟨rfl, g1, g2, g3⟩ := blt_of c Q h1
      cases tg with
      | Tuple elts kk tpos => exact ri_enum g1 g2 (ih.e Q c h3) (star1 _ h2)
      | _ => cases h0
    · cases h
  · split at h
    · obtain ⟨h0, h1⟩ := and2 h
      obtain ⟨h1, h2⟩ := and2 h1
      obtain ⟨h2, h3⟩ := and2 h2
      obtain ⟨h3, h4⟩ := and2 h3
      obtain ⟨h4, h5⟩ := and2 h4
      obtain ⟨rfl, g1, g2, g3⟩ := blt_of c Q h1
      cases tg with
      | Tuple elts kk tpos => exact ri_zip g1 g2 (ih.e Q c h4) (ih.e Q c h5) (star1 _ h3) (star_ok _ h2)
      | _ => cases h0
    · cases h
  · cases h
end
end Mi
end
section
set_option autoImplicit false
set_option Elab.async false
set_option linter.all false
set_option maxRecDepth 100000
set_option maxHeartbeats 3200000
/-! The matcher is sound: expressions. -/
namespace Mi
open PySem L2
section
variable {X : Cx} {L : Ln} {call : CallT} {T : Tab} {k n : Nat} {M : Md} {W : WX} {e : Expr}
/-- a method's call on one line -/
theorem mcall_ok {o : Expr} {m : Str} {apos pos : Pos} {es : List Expr} (env : Env) (hb : baseB o = true) (hl : (apos.endLine == pos.line) = true) (hf : argsFew es = true) :
    eval (.Call (.Attribute o m apos) es [] pos) env = (do
      let ov ← eval o env
      standAt apos.atName
      let (f, first) ← holding [ov] (getMethod ov m (plainOf o env))
      callWith pos f first (backTo pos (starEach es env)) (backToKw pos (keywordEach [] env))) := by
  show (do
    let ov ← attributeBase o m env (eval o env)
    standAt apos.atName
    methodCall o m apos pos env ov (es.length + ([] : List Keyword).length) (backTo pos (starEach es env)) (backToKw pos (keywordEach [] env))) = _
  rw [base_ok hb]
  have h2 : methodCallForm (es.length + ([] : List Keyword).length) (backTo pos (starEach es env)) (backToKw pos (keywordEach [] env)) = true := few_ok env pos hf
  have h3 : ∀ ov, methodCall o m apos pos env ov (es.length + ([] : List Keyword).length) (backTo pos (starEach es env)) (backToKw pos (keywordEach [] env)) = (do
      let (f, first) ← holding [ov] (getMethod ov m (plainOf o env))
      callWith pos f first (backTo pos (starEach es env)) (backToKw pos (keywordEach [] env))) := fun ov => mcall_line h2 hl
  simp only [h3]
theorem es_nil {es' : Es} (h : mEs n T M [] es' = true) : es' = .nil := by
  cases n with
  | zero => unfold mEs at h; cases h
  | succ n =>
    unfold mEs at h
    cases es' with
    | nil => rfl
    | cons a as => cases h
theorem args_few {es : List Expr} (h : argsFew es = true) : es.all noStar = true := (and2 h).2
theorem se_bi {b : BI} (Q : KnwX X L call T k) (c : Ctx X L M k W) {a : Expr} {r : List Expr} {es' : Es} {p pos : Pos} (hb : biHas b = true) (hr : (M.gd || !decide (b = .repr)) = true) (g1 : Gl X (biN b)) (g2 : X.mg (biN b) = none) (hs : (a :: r).all noStar = true) (ha : PA X (a :: r) (RdP (sy X L) call W es')) :
    PE X (.Call (.Name (biN b) p) (a :: r) [] pos) (RdE (sy X L) call W (.bi b es')) := by
  obtain ⟨s1, s2⟩ := and2 (show (noStar a && r.all noStar) = true from hs)
  have k1 := star_ok (e := a) (es := r) X.env s1
  have k2 := stars_ok X.env pos s2
  cases b with
  | str => cases hb
  | ord => cases hb
  | len => exact rd_biB (id := "len") bi_len g1 g2 (by rfl) ha (by decide +kernel) (by decide +kernel) k1 k2
  | tuple => exact rd_biT (T := "tuple") bi_tuple g1 g2 (by rfl) ha (by decide +kernel) (by decide +kernel) k1 k2
  | sum => exact rd_biB (id := "sum") (bi_sum c.calm) g1 g2 (by rfl) ha (by decide +kernel) (by decide +kernel) k1 k2
  | max => exact rd_biB (id := "max") (bi_max c.calm) g1 g2 (by rfl) ha (by decide +kernel) (by decide +kernel) k1 k2
  | min => exact rd_biB (id := "min") (bi_min c.calm) g1 g2 (by rfl) ha (by decide +kernel) (by decide +kernel) k1 k2
  | any => exact rd_biB (id := "any") (bi_any c.calm) g1 g2 (by rfl) ha (by decide +kernel) (by decide +kernel) k1 k2
  | all => exact rd_biB (id := "all") (bi_all c.calm) g1 g2 (by rfl) ha (by decide +kernel) (by decide +kernel) k1 k2
  | int => exact rd_biT (T := "int") bi_int g1 g2 (by rfl) ha (by decide +kernel) (by decide +kernel) k1 k2
  | abs => exact rd_biB (id := "abs") bi_abs g1 g2 (by rfl) ha (by decide +kernel) (by decide +kernel) k1 k2
  | repr => exact rd_biB (id := "repr") (bi_repr Q.rep (c.gd (by simpa using hr)) c.un64) g1 g2 (by rfl) ha (by decide +kernel) (by decide +kernel) k1 k2
theorem bm_get (c : Ctx X L M k W) : ∀ tag, bmTag .get tag = true → BmT X (bmN .get) tag (RM (sy X L) .get tag) := fun tag h => by
  have : tag = 5 := by
    match tag, h with
    | 5, _ => rfl
  subst this
  exact ⟨_, PySem.F.plainAttrs_dict, PySem.F.slot_dict_get, PySem.F.type_dict_get, mtv_get c.un16⟩
theorem bm_tag {m : BM} (hm : m = .get ∨ m = .append) : ∀ tag, bmTag m tag = true → tag ≠ 0 ∧ tag ≠ 3 := fun tag h => by
  rcases hm with rfl | rfl
  · match tag, h with
    | 5, _ => decide
  · match tag, h with
    | 4, _ => decide
theorem se_rf (ih : Snd T n) (Q : KnwX X L call T k) (c : Ctx X L M k W) {body : Expr} {scope : Scope} {a' : E} {p lpos pos : Pos} (hl : M.lam = true) (g1 : Gl X "_law_refused") (g3 : (("_law_refused" : Str) == ("__debug__" : Str)) = false) (hs : LamX.lamSB M.sc scope = true)
    (h : mE n T ⟨M.N, scope, fun _ => false, false, false⟩ body a' = true) : PE X (.Call (.Name "_law_refused" p) [.Lambda ⟨[], [], none, [], [], none, []⟩ body scope lpos] [] pos) (RdE (sy X L) call W (.rf 0 a')) := by
  cases qf : L.g.rfs[0]? with
  | none =>
    refine ⟨fun pins s σ H Qv I q => ?_⟩
    obtain ⟨en, hh, wd, e1, st, q⟩ := q
    unfold evE at q
    have q : Post (sy X L) wd (fun c d => W c d σ) (Good (sy X L) wd (isOwn (.rf 0 a') en) Qv) (match L.g.rfs[0]? with
      | some hs => (match evE L.g call a' en hh with
        | .ok _ h => .ok (.tup [.str [], .non]) h
        | .exc c d h => (match handler hs (L.g.sub c) with
          | some w => .ok (.tup [.str w, d]) h
          | none => .fail)
        | .fail => .fail)
      | none => .fail) := q
    rw [qf] at q
    exact q.elim
  | some hs0 =>
    have R := Q.rf hs0 qf
    obtain ⟨lr, cc, P, lc, TB, hmT, hu⟩ := c.lam hl
    have nn := nm_of R.hn
    have na := nm_of R.ha
    have hG := refused_gives (X := X) (x := "_law_refused") (g := R.ga) (cdg := R.cdv) (q := X.env.qual ++ "<lambda>") (p1 := R.p1) (p2 := R.p2) (p3 := R.p3) (p4 := R.p4) (p5 := R.p5) (p6 := R.p6) (p7 := R.p7) (p8 := R.p8) (j := R.j) (k1 := R.k1) (a := R.a) (R.hh X rfl) R.Sg.nd R.hni R.hnl nn.1 nn.2 (fun _ => rfl) (by
      have := (List.getElem?_eq_some_iff.mp R.hNg).1
      omega)
    have hp := LamX.pe_lamcall (X := X) (T := L.T) (k := k + 1) (t := fun E => RdE (sy X L) call (fun c d _ H => E c d H) a') (body := body) (scope := scope) (params := ⟨[], [], none, [], [], none, []⟩) (p := p) (lpos := lpos) (pos := pos) (a := R.a)
      g1 R.hm R.hk R.lk R.hcg R.hb R.Sg R.hNg R.hva hG TB lc hmT hu lr (by rw [c.sc]; exact LamX.lamS_by hs) rfl (fun _ _ _ _ _ => rfl) (fun A outer s H E f c' hr => ?_) g3 na.1 na.2
    · exact hp.impM fun σ H Qv q => rf_read qf (Q.rfo hs0 qf) q
    · have cl : Ctx (LamX.lamCx X A outer s H E scope f c') L ⟨M.N, scope, fun _ => false, false, false⟩ k (fun c d _ H => E c d H) := {
        calm := rfl
        gd := fun z => nomatch z
        room := hr
        tk := takes_of rfl rfl rfl rfl
        N := c.N
        nd := c.nd
        sc := rfl
        fn := rfl
        lam := fun z => nomatch z }
      have Ql : KnwX (LamX.lamCx X A outer s H E scope f c') L call T k := Q
      exact ih.e Ql cl h
end
end Mi
end
section
set_option autoImplicit false
set_option Elab.async false
set_option linter.all false
set_option maxRecDepth 100000
set_option maxHeartbeats 3200000
/-! The matcher is sound: expressions, the cases. -/
namespace Mi
open PySem L2
section
variable {X : Cx} {L : Ln} {call : CallT} {T : Tab} {k n : Nat} {M : Md} {W : WX} {e : Expr}
theorem fns_of (Q : KnwX X L call T k) {f m : Nat} (h : (T.g.fns[f]?.map (·.np)) = some m) : ∃ fn, L.g.fns[f]? = some fn ∧ fn.np = m := by
  rw [Q.gT] at h
  cases q : L.g.fns[f]? with
  | none => rw [q] at h; cases h
  | some fn => rw [q] at h; exact ⟨fn, rfl, Option.some.inj h⟩
theorem se_call (ih : Snd T n) (Q : KnwX X L call T k) (c : Ctx X L M k W) {f : Nat} {es' : Es} {x : Str} {es : List Expr} {p pos : Pos} (h : (isFn T M x f && ((M.gd || !T.rp f) && (decide ((T.g.fns[f]?.map (·.np)) = some es'.len) && (es.all noStar && mEs n T M es es')))) = true) :
    PE X (.Call (.Name x p) es [] pos) (RdE (sy X L) call W (.call f es')) := by
  obtain ⟨h1, h⟩ := and2 h
  obtain ⟨h2, h⟩ := and2 h
  obtain ⟨h3, h⟩ := and2 h
  obtain ⟨h4, h5⟩ := and2 h
  obtain ⟨g1, g2, g3⟩ := fnn_of c Q h1
  obtain ⟨fn, q1, q2⟩ := fns_of Q (of_decide_eq_true h3)
  obtain ⟨F, Fb, Fk⟩ := Q.fns f fn q1
  have hr : Room k X.A := c.room.mono (Nat.le_succ _)
  have hg : L.rp f = true → X.A.guards = some [] := fun z => c.gd (by
    rcases or2 h2 with y | y
    · exact y
    · rw [Q.rps f (ntr y)] at z; cases z)
  obtain ⟨a1, a2⟩ := ih.es Q c h5
  cases es with
  | nil =>
    have := es_nil h5
    subst this
    exact rd_call0 F hr hg g1 g2 Fk Fb c.tk q2.symm g3
  | cons a r =>
    obtain ⟨s1, s2⟩ := and2 (show (noStar a && r.all noStar) = true from h4)
    exact rd_call F hr hg g1 g2 Fk Fb c.tk a1 q2.symm g3 (star_ok _ s1) (stars_ok _ _ s2)
theorem se_new (ih : Snd T n) (Q : KnwX X L call T k) (c : Ctx X L M k W) {cl : Nat} {es' : Es} {x : Str} {es : List Expr} {p pos : Pos} (h : (isCls T M x cl && (decide (cl < T.g.cls.length) && (es.all noStar && mEs n T M es es'))) = true) :
    PE X (.Call (.Name x p) es [] pos) (RdE (sy X L) call W (.new cl es')) := by
  obtain ⟨h1, h⟩ := and2 h
  obtain ⟨h2, h⟩ := and2 h
  obtain ⟨h4, h5⟩ := and2 h
  obtain ⟨g1, g2, g3⟩ := cls_of c Q h1
  have hk := Q.keepc cl (by rw [← Q.gT]; exact of_decide_eq_true h2)
  obtain ⟨a1, a2⟩ := ih.es Q c h5
  cases es with
  | nil =>
    have := es_nil h5
    subst this
    exact rd_new0 Q.lib c.room c.tk g1 g2 hk g3
  | cons a r =>
    obtain ⟨s1, s2⟩ := and2 (show (noStar a && r.all noStar) = true from h4)
    exact rd_new Q.lib c.room c.tk g1 g2 hk a1 g3 (star_ok _ s1) (stars_ok _ _ s2)
theorem se_meth (ih : Snd T n) (Q : KnwX X L call T k) (c : Ctx X L M k W) {m : Nat} {o : Expr} {o' : E} {es' : Es} {x : Str} {es : List Expr} {apos pos : Pos} (h : (decide (T.an[m]? = some x) && (baseB o && ((apos.endLine == pos.line) && (argsFew es && (mE n T M o o' && mEs n T M es es'))))) = true) :
    PE X (.Call (.Attribute o x apos) es [] pos) (RdE (sy X L) call W (.meth o' m es')) := by
  obtain ⟨h1, h⟩ := and2 h
  obtain ⟨h2, h⟩ := and2 h
  obtain ⟨h3, h⟩ := and2 h
  obtain ⟨h4, h⟩ := and2 h
  obtain ⟨h5, h6⟩ := and2 h
  have e1 := Q.an m x (of_decide_eq_true h1)
  subst e1
  have hr : Room k X.A := c.room.mono (Nat.le_succ _)
  have ht := mcall_ok (m := L.an m) X.env h2 h3 h4
  obtain ⟨a1, a2⟩ := ih.es Q c h6
  cases es with
  | nil =>
    have := es_nil h6
    subst this
    exact rd_meth0 (pl := plainOf o X.env) Q.lib hr c.tk (ih.e Q c h5) ht
  | cons a r =>
    obtain ⟨s1, s2⟩ := and2 (show (noStar a && r.all noStar) = true from args_few h4)
    exact rd_meth (pl := plainOf o X.env) Q.lib hr c.tk (ih.e Q c h5) a1 (star_ok _ s1) (stars_ok _ _ s2) ht
theorem se_e1 (ih : Snd T n) (Q : KnwX X L call T k) (c : Ctx X L M k W) {e' : E} (h : mE (n + 1) T M e e' = true) : PE X e (RdE (sy X L) call W e') := by
  unfold mE at h
  cases e' with
  | c d => exact const_ok h
  | v i =>
    obtain ⟨x, pos, rfl, _⟩ := name_ok h
    exact rd_v (var_ok c h)
  | g j d => exact glob_ok Q c h
  | un o a' =>
    dsimp only at h
    split at h
    · obtain ⟨h1, h2⟩ := and2 h
      have h1 := of_decide_eq_true h1
      subst h1
      exact rd_un (un_all o) (ih.e Q c h2)
    · cases h
  | bin o a' b' =>
    dsimp only at h
    split at h
    · obtain ⟨h1, h2⟩ := and2 h
      obtain ⟨h2, h3⟩ := and2 h2
      have h1 := of_decide_eq_true h1
      subst h1
      exact rd_bin (b_all o) (ih.e Q c h2) (ih.e Q c h3)
    · cases h
  | cmp o a' b' =>
    dsimp only at h
    split at h
    · obtain ⟨h1, h2⟩ := and2 h
      obtain ⟨h2, h3⟩ := and2 h2
      obtain ⟨h3, h4⟩ := and2 h3
      have h1 := of_decide_eq_true h1
      subst h1
      exact rd_cmp (cmp_all o c) (ih.e Q c h3) (ih.e Q c h4) (ntr h2)
    · cases h
  | chn o p a' b' d' =>
    dsimp only at h
    split at h
    · obtain ⟨h1, h⟩ := and2 h
      obtain ⟨h2, h⟩ := and2 h
      obtain ⟨h3, h⟩ := and2 h
      obtain ⟨h4, h⟩ := and2 h
      obtain ⟨h5, h6⟩ := and2 h
      have h1 := of_decide_eq_true h1
      subst h1
      have h2 := of_decide_eq_true h2
      subst h2
      exact rd_chn (cmp_all o c) (cmp_all p c) (ih.e Q c h4) (ih.e Q c h5) (ih.e Q c h6) (ntr h3)
    · cases h
  | and a' b' =>
    dsimp only at h
    split at h
    · exact ih.and_ Q c h _
    · cases h
  | or a' b' =>
    dsimp only at h
    split at h
    · exact ih.or_ Q c h _
    · cases h
  | ife t a' b' =>
    dsimp only at h
    split at h
    · obtain ⟨h1, h2⟩ := and2 h
      obtain ⟨h2, h3⟩ := and2 h2
      exact rd_ife (ih.b Q c h1) (rdV_of (ih.e Q c h2)) (rdV_of (ih.e Q c h3))
    · cases h
  | tup es' =>
    dsimp only at h
    split at h
    · obtain ⟨h1, h2⟩ := and2 h
      exact rd_tup (ih.es Q c h2).1 (of_decide_eq_true h1)
    · cases h
  | fr f => exact rd_fr (ih.f Q c h)
  | al f => exact rd_al (ih.f Q c h)
  | call f es' =>
    dsimp only at h
    split at h
    · exact se_call ih Q c h
    · cases h
  | new cl es' =>
    dsimp only at h
    split at h
    · exact se_new ih Q c h
    · cases h
  | meth o' m es' =>
    dsimp only at h
    split at h
    · exact se_meth ih Q c h
    · cases h
  | bi b es' =>
    dsimp only at h
    split at h
    · rename_i x p es pos
      obtain ⟨h1, h⟩ := and2 h
      obtain ⟨h2, h⟩ := and2 h
      obtain ⟨h3, h⟩ := and2 h
      obtain ⟨h4, h5⟩ := and2 h
      obtain ⟨b1, b2⟩ := and2 h1
      obtain ⟨rfl, g1, g2, g3⟩ := blt_of c Q h2
      cases es with
      | nil => cases h3
      | cons a r => exact se_bi Q c b1 b2 g1 g2 h4 (ih.es Q c h5).2
    · cases h
  | bit b i =>
    cases b with
    | tuple =>
      cases i with
      | r1 a' =>
        dsimp only at h
        split at h
        · obtain ⟨h1, h⟩ := and2 h
          obtain ⟨h2, h⟩ := and2 h
          obtain ⟨h3, h4⟩ := and2 h
          obtain ⟨rfl, g1, g2, g3⟩ := blt_of c Q h1
          obtain ⟨rfl, k1, k2, k3⟩ := blt_of c Q h2
          exact rd_tupRg c.calm g1 g2 k1 k2 (ih.e Q c h4) (star_ok _ h3) rfl
        · cases h
      | _ => cases h
    | _ => cases h
  | isi a' ts =>
    dsimp only at h
    split at h
    · rename_i t _ _
      obtain ⟨h1, h⟩ := and2 h
      obtain ⟨h2, h⟩ := and2 h
      obtain ⟨h3, h⟩ := and2 h
      obtain ⟨h4, h5⟩ := and2 h
      obtain ⟨rfl, g1, g2, g3⟩ := blt_of c Q h1
      split at h5
      · obtain ⟨h5, h6⟩ := and2 h5
        obtain ⟨h6, h7⟩ := and2 h6
        obtain ⟨t1, t2⟩ := tys_ok Q c h7
        exact rd_isiT Q.isi (by intro z; subst z; cases h5) (of_decide_eq_true h6) t1 g1 g2 (ih.e Q c h4) t2 rfl (star_ok _ h2) rfl
      · split at h5
        · obtain ⟨t1, t2⟩ := ty_ok Q c h5
          exact rd_isi1 Q.isi t1 g1 g2 (ih.e Q c h4) t2 (star_ok _ h3) (star_ok _ h2) (stars_ok _ _ (by simp [h3]))
        · cases h5
    · cases h
  | bm o' m es' =>
    dsimp only at h
    split at h
    · rename_i o x apos es pos
      obtain ⟨h1, h⟩ := and2 h
      obtain ⟨h2, h⟩ := and2 h
      obtain ⟨h3, h⟩ := and2 h
      obtain ⟨h4, h⟩ := and2 h
      obtain ⟨h5, h⟩ := and2 h
      obtain ⟨h6, h⟩ := and2 h
      obtain ⟨h7, h8⟩ := and2 h
      have h1 := of_decide_eq_true h1
      subst h1
      have h2 := of_decide_eq_true h2
      subst h2
      cases es with
      | nil => cases h5
      | cons a r =>
        obtain ⟨s1, s2⟩ := and2 (show (noStar a && r.all noStar) = true from args_few h6)
        exact rd_bmP rfl (bm_get c) (bm_tag (.inl rfl)) (ih.e Q c h7) (ih.es Q c h8).1 (base_ok h3 _ _) (few_ok _ _ h6) h4 (star_ok _ s1) (stars_ok _ _ s2)
    · cases h
  | fld a' j =>
    dsimp only at h
    split at h
    · obtain ⟨h1, h⟩ := and2 h
      obtain ⟨h2, h3⟩ := and2 h
      have e1 := Q.an j _ (of_decide_eq_true h1)
      subst e1
      exact rd_fld (ih.e Q c h3) Q.inj Q.cls (base_ok h2 _ _)
    · cases h
  | ix a' b' =>
    dsimp only at h
    split at h
    · obtain ⟨h1, h⟩ := and2 h
      obtain ⟨h2, h3⟩ := and2 h
      exact rd_ix (ix_rep c.un16) (ih.e Q c h2) (ih.e Q c h3) (slice_ok h1)
    · cases h
  | sl a' lo hi =>
    dsimp only at h
    split at h
    · obtain ⟨h1, h⟩ := and2 h
      obtain ⟨h2, h3⟩ := and2 h
      exact rd_sl (ih.e Q c h1) (ih.o Q c h2) (ih.o Q c h3)
    · cases h
  | vcall i es' => cases h
  | rf f a' =>
    dsimp only at h
    split at h
    · obtain ⟨h1, h⟩ := and2 h
      obtain ⟨h2, h⟩ := and2 h
      obtain ⟨h3, h⟩ := and2 h
      obtain ⟨h4, h⟩ := and2 h
      obtain ⟨h5, h6⟩ := and2 h
      have h2 := of_decide_eq_true h2
      subst h2
      have h3 := of_decide_eq_true h3
      subst h3
      obtain ⟨g1, g3⟩ := gl_of c h4
      exact se_rf ih Q c h1 g1 g3 h5 h6
    · cases h
theorem snd (T : Tab) : ∀ n, Snd T n
  | 0 => snd0 T
  | n + 1 => by
    have ih := snd T n
    exact ⟨fun Q c h => se_e1 ih Q c h, fun Q c h => se_and ih Q c h, fun Q c h => se_or ih Q c h, fun Q c h => se_es ih Q c h, fun Q c h => se_o ih Q c h, fun Q c h => se_b ih Q c h, fun Q c h => se_andb ih Q c h, fun Q c h => se_orb ih Q c h, fun Q c h => se_lc ih Q c h, fun Q c h => se_f ih Q c h, fun Q c h => se_i ih Q c h⟩
end
end Mi
end
section
set_option autoImplicit false
set_option Elab.async false
set_option linter.all false
set_option maxRecDepth 100000
set_option maxHeartbeats 3200000
/-! The matcher is sound: statements. -/
namespace Mi
open PySem L2
section
variable {X : Cx} {L : Ln} {call : CallT} {T : Tab} {k n : Nat} {M : Md} {W : WX} {e : Expr} {w0 : Wd}
theorem swN_ok (hs : X.env.scope = M.sc) {ts : List Expr} {kt : Nat} {p : Pos} (h : swN M ts e = true) : swappedStores [.Tuple ts kt p] e X.env = pure none := by
  cases e with
  | Tuple vs k2 p2 =>
    have h : (!ts.all (locE M) || vs.all (foldedForSure 8)) = true := h
    unfold swappedStores
    dsimp only
    split
    · rfl
    · split
      · rfl
      · rename_i h1 h2
        split
        · rfl
        · rename_i h3
          split
          · rfl
          · rename_i h4
            exfalso
            rcases or2 h with z | z
            · have z := ntr z
              simp only [Bool.or_eq_true, not_or, bne_iff_ne, ne_eq, Decidable.not_not] at h3
              have key : ∀ (l : List Expr) (ln : Nat), (l.filterMap fun (x : Expr) => match x with
                  | .Name id pos => if (X.env.kindOf id == some .local && pos.line == ln) = true then some id else none
                  | _ => none).length ≤ l.length ∧ ((l.filterMap fun (x : Expr) => match x with
                  | .Name id pos => if (X.env.kindOf id == some .local && pos.line == ln) = true then some id else none
                  | _ => none).length = l.length → l.all (locE M) = true) := by
                intro l ln
                induction l with
                | nil => exact ⟨Nat.le_refl _, fun _ => rfl⟩
                | cons a r ih =>
                  obtain ⟨i1, i2⟩ := ih
                  rw [List.filterMap_cons]
                  split
                  · refine ⟨Nat.le_succ_of_le i1, fun z => ?_⟩
                    rw [List.length_cons] at z
                    omega
                  · rename_i b hb
                    refine ⟨by rw [List.length_cons, List.length_cons]; omega, fun z => ?_⟩
                    rw [List.length_cons, List.length_cons] at z
                    rw [List.all_cons, i2 (by omega), Bool.and_true]
                    cases a with
                    | Name id pos =>
                      dsimp only at hb
                      split at hb
                      · rename_i hc
                        have hk := (and2 hc).1
                        have hk : X.env.kindOf id = some .local := by simpa using hk
                        have hk : X.env.scope.names.lookup id = some .local := hk
                        rw [hs] at hk
                        exact decide_eq_true hk
                      · cases hb
                    | _ => cases hb
              rw [(key ts _).2 h3.1] at z
              cases z
            · exact h4 z
  | _ => rfl
theorem par_ok (hs : X.env.scope = M.sc) (hk : M.sc.kind = .function) {x y : Str} {px py pt pt2 : Pos} {kt k2 : Nat} {a b : Expr} (h1 : M.sc.names.lookup x = some .local) (h2 : M.sc.names.lookup y = some .local) (hxy : x ≠ y) (hl : (px.line == py.line) = true) (hf : foldB [a, b] = true) (ha : noStar a = true) (hb : noStar b = true) :
    swappedStores [.Tuple [.Name x px, .Name y py] kt pt] (.Tuple [a, b] k2 pt2) X.env = pure (some [x, y]) := by
  obtain ⟨f1, f2⟩ := and2 hf
  have bk : X.env.blockKind = .function := by
    unfold Env.blockKind
    rw [hs, hk]
    rfl
  have kx : X.env.kindOf x = some .local := by show X.env.scope.names.lookup x = _; rw [hs]; exact h1
  have ky : X.env.kindOf y = some .local := by show X.env.scope.names.lookup y = _; rw [hs]; exact h2
  have hl2 : (py.line == px.line) = true := by
    have := eq_of_beq hl
    rw [this]
    exact beq_self_eq_true _
  have st : ([a, b].any fun | .Starred .. => true | _ => false) = false := by
    have h1 : ∀ a : Expr, noStar a = true → (match a with | .Starred .. => true | _ => false) = false := fun a h => by cases a <;> first | rfl | (cases h)
    simp [h1 a ha, h1 b hb]
  have nd : [x, y].eraseDups.length = 2 := by
    have : (y == x) = false := by
      rw [beq_eq_false_iff_ne]
      exact fun z => hxy z.symm
    simp [List.eraseDups_cons, this]
  unfold swappedStores
  simp only [st, bk, kx, ky, hl2, Expr.pos, ntr f1, ntr f2, List.length_cons, List.length_nil, List.filterMap_cons, List.filterMap_nil, List.head?_cons, Option.map_some, Option.getD_some, nd, beq_self_eq_true, Bool.and_true, Bool.true_and, if_true]
  simp
  intro z
  rcases z with z | z
  · cases a with
    | Starred _ _ => exact absurd ha (by simp [noStar])
    | _ => simp at z
  · cases b with
    | Starred _ _ => exact absurd hb (by simp [noStar])
    | _ => simp at z
theorem sw_ok (c : CtxS X L M k W) {elt : Expr} {gs : List Comprehension} {scope : Scope} {y : Str} {py pos : Pos} {l : Nat} (h : swB M scope y py pos = true) : swapsWith (.ListComp elt gs scope pos) (some (.Name y py)) l X.env = pure true := by
  obtain ⟨h1, h2⟩ := and2 h
  obtain ⟨h2, h3⟩ := and2 h2
  exact sw_true (by rw [c.sc]; exact c.kind) (by rw [c.sc]; exact of_decide_eq_true h1) h2 (ntr h3)
/-- name = [..] -/
theorem setLc_own (c : CtxS X L M k W) {elt : Expr} {gs : List Comprehension} {scope : Scope} {i : Nat} {y : Str} {py pos spos : Pos} {f : F} (hi : X.N[i]? = some y) (h : swB M scope y py pos = true) (r : LcR X L call M W elt gs scope f) :
    ∃ te : TE, PS X (.Assign [.Name y py] (.ListComp elt gs scope pos) spos) (tAsg te (gName i)) ∧ ∀ σ H Q, RdF (sy X L) call W f σ H Q → te σ H Q := by
  have hsw := sw_ok (gs := gs) (elt := elt) (l := spos.line) c h
  obtain ⟨tg, iter, ifs, own, t, ii, cond, e', rfl, rfl, eo, r1, r2, r3, r4, r5, r6, r7⟩ := r
  have hy : X.env.scope.names.lookup y = some .local := by rw [c.sc]; exact of_decide_eq_true (and2 h).1
  refine ⟨_, ps_setLc c.calm (by rw [c.N]; exact c.nd) hi hy hsw r1 r2 r3 r4 r5 r7, fun σ H Q q => ?_⟩
  rw [eo] at q
  exact lc_reading (iter := iter) (tg := tg) (elt := elt) r6 q
theorem asg1 {tg : Expr} (h : noStar tg = true) : (assignEach [tg] X.env).map (·.2) = [assign tg X.env] := by
  cases tg <;> first | rfl | (cases h)
theorem sub_ok {o i : Expr} {pos : Pos} (h : noSlice i = true) : ∀ v, assign (.Subscript o i pos) X.env v = (do
      let ov ← holding [v] (eval o X.env)
      let iv ← holding [v, ov] (eval i X.env)
      standAt pos
      holding [v, ov, iv] (setItem ov iv v)
      release [v, ov, iv] []) := fun v => by
  cases i <;> first | rfl | (cases h)
theorem aug_ok {i : Expr} (h : noSlice i = true) : ∀ ov iv new, augStore i ov iv new = (do holding [new, ov, iv] (setItem ov iv new); release [new, ov, iv] []; pure .next) := fun ov iv new => by
  cases i <;> first | rfl | (cases h)
theorem bm_append : ∀ tag, bmTag .append tag = true → BmT X (bmN .append) tag (RMP (sy X L) .append) := fun tag h => by
  have : tag = 4 := by
    match tag, h with
    | 4, _ => rfl
  subst this
  exact ⟨_, PySem.F.plainAttrs_list, PySem.F.slot_list_append, PySem.F.type_list_append, mto_append⟩
theorem err_of (Q : KnwX X L call T k) (c : CtxS X L M k W) {cl : Nat} (h : T.errs.contains cl = true) : ErrC X (L.cad cl) := by
  obtain ⟨t, nov, fI, fd, ps, h1, h2, h3, h4⟩ := Q.err cl h
  exact ⟨t, nov, fI, fd, ps, 1, h1, h2, h3, c.room3, h4⟩
end
end Mi
end
section
set_option autoImplicit false
set_option Elab.async false
set_option linter.all false
set_option maxRecDepth 100000
set_option maxHeartbeats 6400000
/-! The matcher is sound: statements, the cases. -/
namespace Mi
open PySem L2
structure SndS (T : Tab) (n : Nat) : Prop where
  s : ∀ {X : Cx} {L : Ln} {call : CallT} {k : Nat} {M : Md} {W : WX} {w0 : Wd} {st : Stmt} {s : S}, KnwX X L call T k → CtxS X L M k W → mS n T M st s = true → PS X st (RdX (sy X L) w0 W (evS L.g call s))
  ss : ∀ {X : Cx} {L : Ln} {call : CallT} {k : Nat} {M : Md} {W : WX} {w0 : Wd} {st : List Stmt} {s : Ss}, KnwX X L call T k → CtxS X L M k W → mSs n T M st s = true → PSs X st (RdX (sy X L) w0 W (evSs L.g call s))
section
variable {X : Cx} {L : Ln} {call : CallT} {T : Tab} {k n : Nat} {M : Md} {W : WX} {e : Expr} {w0 : Wd}
theorem comp_ok1 (h : noComp e = true) (t : Expr) (l : Nat) (env : Env) : swapsWithSole [t] e l env = pure false := comp_ok h (some t) l env
theorem item_k {o : Bool} {e' : E} (Q : KnwX X L call T k) (c : Ctx X L M k W) (h : mK n T M o e e' = true) : ∃ te, PE X e te ∧ ItemOk (sy X L) call W o e' te := by
  cases n with
  | zero => unfold mK at h; cases h
  | succ n =>
    unfold mK at h
    cases o with
    | true =>
      cases e' with
      | fr f => exact ⟨_, (snd T n).f Q c h, item_o⟩
      | _ => cases h
    | false => exact ⟨_, rdV_of ((snd T n).e Q c h), item_v⟩
theorem ret_ok (Q : KnwX X L call T k) (c : Ctx X L M k W) {e' : E} {pos : Pos} (h : mE n T M e e' = true) : PS X (.Return (some e) pos) (RdX (sy X L) w0 W (evS L.g call (.ret e'))) := by
  cases hv : e'.nv with
  | true => exact rs_ret ((snd T n).e Q c h) hv
  | false =>
    cases e' with
    | v i =>
      cases n with
      | zero => unfold mE at h; cases h
      | succ n =>
        unfold mE at h
        exact rs_retv (var_ok c h)
    | _ => cases hv
theorem ss_s (ih : SndS T n) {st : Stmt} {s : S} (Q : KnwX X L call T k) (c : CtxS X L M k W) (h : mS (n + 1) T M st s = true) : PS X st (RdX (sy X L) w0 W (evS L.g call s)) := by
  have c' := c.toCtx
  have se := snd T n
  have nd : X.N.Nodup := by rw [c.N]; exact c.nd
  unfold mS at h
  split at h
  · -- e
    split at h
    · obtain ⟨h1, h2⟩ := and2 h
      exact rs_ex (ps_expr (se.e Q c' h2) (comp_ok h1 _ _ _)) fun _ _ _ q => q
    · cases h
  · -- x = e
    split at h
    · rename_i i e' st' x py e pos
      obtain ⟨h1, h2⟩ := and2 h
      obtain ⟨s1, s2, s3⟩ := store_of c' h1
      split at h2
      · obtain ⟨hw, hm⟩ := and2 h2
        split at hm
        · obtain ⟨te, p1, p2⟩ := setLc_own c s1 hw (se.lc Q c' hm)
          exact rs_set p1 fun σ H Qv q => p2 σ H Qv (fr_imp q)
        · obtain ⟨te, p1, p2⟩ := setLc_own c s1 hw (se.lc Q c' hm)
          exact rs_set p1 fun σ H Qv q => p2 σ H Qv (al_imp q)
        · cases hm
      · obtain ⟨h2, h3⟩ := and2 h2
        exact rs_set (ps_set nd s1 s2 (rdV_of (se.e Q c' h3)) (comp_ok h2 _ _ _) s3) fun _ _ _ q => q
    · cases h
  · -- x = [..], owned
    split at h
    · obtain ⟨h1, h2⟩ := and2 h
      obtain ⟨s1, s2, s3⟩ := store_of c' h1
      split at h2
      · obtain ⟨h2, h3⟩ := and2 h2
        obtain ⟨te, p1, p2⟩ := setLc_own c s1 h2 (se.lc Q c' h3)
        exact rs_own p1 p2
      · obtain ⟨h2, h3⟩ := and2 h2
        exact rs_own (ps_set nd s1 s2 (se.f Q c' h3) (comp_ok h2 _ _ _) s3) fun _ _ _ q => q
    · cases h
  · -- a, b = e
    split at h
    · obtain ⟨h1, h⟩ := and2 h
      obtain ⟨h2, h⟩ := and2 h
      obtain ⟨h3, h4⟩ := and2 h
      exact rs_unp (ps_asg (rdV_of (se.e Q c' h4)) ((sT n).1 c' h3) (comp_ok1 h2 _ _ _) (swN_ok c.sc h1) rfl) fun _ _ _ q => q
    · cases h
  · -- a, b = x, y
    split at h
    · obtain ⟨h1, h⟩ := and2 h
      obtain ⟨h2, h⟩ := and2 h
      obtain ⟨h3, h⟩ := and2 h
      obtain ⟨h4, h⟩ := and2 h
      obtain ⟨h5, h⟩ := and2 h
      obtain ⟨h6, h⟩ := and2 h
      obtain ⟨h7, h⟩ := and2 h
      obtain ⟨h8, h⟩ := and2 h
      obtain ⟨h9, h10⟩ := and2 h
      obtain ⟨a1, a2⟩ := and2 h1
      obtain ⟨b1, b2⟩ := and2 h2
      have a2 := of_decide_eq_true a2
      have b2 := of_decide_eq_true b2
      have hij := of_decide_eq_false (ntr h3)
      obtain ⟨ta, p1, i1⟩ := item_k Q c' h9
      obtain ⟨tb, p2, i2⟩ := item_k Q c' h10
      exact rs_par (ps_par c.calm nd (by rw [c.N]; exact of_decide_eq_true a1) (by rw [c.N]; exact of_decide_eq_true b1) hij (by rw [c.sc]; exact a2) (by rw [c.sc]; exact b2) (pa_cons p1 (pa_cons p2 pa_nil (star_ok _ h8)) (star_ok _ h7))
        (par_ok c.sc c.kind a2 b2 (of_decide_eq_false (ntr h4)) h5 h6 h7 h8) rfl) i1 i2 hij
    · cases h
  · -- x += e
    split at h
    · obtain ⟨h1, h⟩ := and2 h
      obtain ⟨h2, h⟩ := and2 h
      obtain ⟨h3, h4⟩ := and2 h
      obtain ⟨s1, s2, s3⟩ := store_of c' h1
      have h3 := of_decide_eq_true h3
      subst h3
      exact rs_aug (ps_aug nd s1 s2 (se.e Q c' h4) (ip_all _ (of_decide_eq_false (ntr h2))) s3) fun _ _ _ q => q
    · cases h
  · -- o.f = e
    split at h
    · obtain ⟨h1, h⟩ := and2 h
      obtain ⟨h2, h⟩ := and2 h
      obtain ⟨h3, h4⟩ := and2 h
      have e1 := Q.an _ _ (of_decide_eq_true h1)
      subst e1
      exact rs_fld Q.inj Q.cls Q.noat (se.e Q c' h3) (rdV_of (se.e Q c' h4)) (comp_ok h2 _ _ _)
    · cases h
  · -- o.f += e
    split at h
    · obtain ⟨h1, h⟩ := and2 h
      obtain ⟨h2, h⟩ := and2 h
      obtain ⟨h3, h⟩ := and2 h
      obtain ⟨h4, h5⟩ := and2 h
      have e1 := Q.an _ _ (of_decide_eq_true h1)
      subst e1
      have h3 := of_decide_eq_true h3
      subst h3
      exact rs_faug Q.inj Q.cls Q.noat (se.e Q c' h4) (se.e Q c' h5) (in_all _ (of_decide_eq_false (ntr h2)))
    · cases h
  · -- a[i] = e
    split at h
    · obtain ⟨h1, h⟩ := and2 h
      obtain ⟨h2, h⟩ := and2 h
      obtain ⟨h3, h⟩ := and2 h
      obtain ⟨h4, h5⟩ := and2 h
      exact rs_six (ps_asg (rdV_of (se.e Q c' h5)) (pg_sub (se.e Q c' h3) (rdV_of (se.e Q c' h4)) (set_rep c'.un16) (sub_ok h1)) (comp_ok1 h2 _ _ _) rfl rfl)
    · cases h
  · -- a[i] += e
    split at h
    · obtain ⟨h1, h⟩ := and2 h
      obtain ⟨h2, h⟩ := and2 h
      obtain ⟨h3, h⟩ := and2 h
      obtain ⟨h4, h⟩ := and2 h
      obtain ⟨h5, h6⟩ := and2 h
      have h3 := of_decide_eq_true h3
      subst h3
      exact rs_iaug (ps_augS (se.e Q c' h4) (rdV_of (se.e Q c' h5)) (get_pget c'.un16) (se.e Q c' h6) (ip_all _ (of_decide_eq_false (ntr h2))) (set_rep c'.un16) (aug_ok h1))
    · cases h
  · -- x[i] = e, owned
    split at h
    · obtain ⟨h1, h⟩ := and2 h
      obtain ⟨h2, h⟩ := and2 h
      obtain ⟨h3, h⟩ := and2 h
      obtain ⟨h4, h5⟩ := and2 h
      exact rs_osix (ps_asg (rdV_of (se.e Q c' h5)) (pg_sub (var_ok c' h3) (rdV_of (se.e Q c' h4)) (set_rep c'.un16) (sub_ok h1)) (comp_ok1 h2 _ _ _) rfl rfl)
    · cases h
  · split at h
    · obtain ⟨h1, h⟩ := and2 h
      obtain ⟨h2, h⟩ := and2 h
      obtain ⟨h3, h⟩ := and2 h
      obtain ⟨h4, h⟩ := and2 h
      obtain ⟨h5, h6⟩ := and2 h
      have h3 := of_decide_eq_true h3
      subst h3
      exact rs_oaug (ps_augS (var_ok c' h4) (rdV_of (se.e Q c' h5)) (get_pget c'.un16) (se.e Q c' h6) (ip_all _ (of_decide_eq_false (ntr h2))) (set_rep c'.un16) (aug_ok h1))
    · cases h
  · -- x.append(e)
    split at h
    · rename_i x' m es' st' o x apos es pos p2
      obtain ⟨h1, h⟩ := and2 h
      obtain ⟨h2, h⟩ := and2 h
      obtain ⟨h3, h⟩ := and2 h
      obtain ⟨h4, h⟩ := and2 h
      obtain ⟨h5, h⟩ := and2 h
      obtain ⟨h6, h7⟩ := and2 h
      have h1 := of_decide_eq_true h1
      subst h1
      have h2 := of_decide_eq_true h2
      subst h2
      have hb : baseB o = true := by
        obtain ⟨y, py, ey, _⟩ := name_ok h3
        rw [ey]
        rfl
      cases es with
      | nil => cases h5
      | cons a r =>
        obtain ⟨s1, s2⟩ := and2 (show (noStar a && r.all noStar) = true from args_few h6)
        exact rs_obm (ps_expr (pe_bs bm_append (var_ok c' h3) (se.es Q c' h7).1 (base_ok hb _ _) (few_ok _ _ h6) h4 (star_ok _ s1) (stars_ok _ _ s2)) rfl) (bm_tag (.inr rfl))
    · cases h
  · split at h
    · obtain ⟨h1, h⟩ := and2 h
      obtain ⟨h2, h3⟩ := and2 h
      exact rs_iff (se.b Q c' h1) (ih.ss Q c h2) (ih.ss Q c h3)
    · cases h
  · split at h
    · obtain ⟨h1, h⟩ := and2 h
      obtain ⟨h2, h⟩ := and2 h
      obtain ⟨h3, h4⟩ := and2 h
      exact rs_for c.own c.calm (se.i Q c' h2) ((sT n).1 c' h3) (ih.ss Q c h4) (set_ok h1 _)
    · cases h
  · split at h
    · obtain ⟨h1, h2⟩ := and2 h
      exact rs_whl c.own (se.b Q c' h1) (ih.ss Q c h2)
    · cases h
  · split at h
    · exact ret_ok Q c' h
    · cases h
  · split at h
    · exact rs_retn
    · cases h
  · split at h
    · obtain ⟨h1, h⟩ := and2 h
      obtain ⟨h2, h⟩ := and2 h
      obtain ⟨h3, h4⟩ := and2 h
      obtain ⟨g1, g2, g3⟩ := cls_of c' Q h1
      exact rs_raise c.calm c.tk (err_of Q c h2) (passes_call c.tk fun _ _ _ _ z => z.elim) g1 g2 (rdV_of (se.e Q c' h4)) g3 (star_ok _ h3)
    · cases h
  · split at h
    · exact rs_brk
    · cases h
  · split at h
    · exact rs_cnt
    · cases h
  · split at h
    · exact rs_pass
    · cases h
  · cases h
theorem ss_ss (ih : SndS T n) {st : List Stmt} {s : Ss} (Q : KnwX X L call T k) (c : CtxS X L M k W) (h : mSs (n + 1) T M st s = true) : PSs X st (RdX (sy X L) w0 W (evSs L.g call s)) := by
  unfold mSs at h
  split at h
  · cases st with
    | nil => exact ss_nil
    | cons a r => cases h
  · exact ss_frz (ih.ss Q c h)
  · split at h
    · obtain ⟨h1, h2⟩ := and2 h
      exact ss_cons (ih.s Q c h1) (ih.ss Q c h2)
    · cases h
theorem sndS (T : Tab) : ∀ n, SndS T n
  | 0 => ⟨(fun _ _ h => by unfold mS at h; cases h), (fun _ _ h => by unfold mSs at h; cases h)⟩
  | n + 1 => by
    have ih := sndS T n
    exact ⟨fun Q c h => ss_s ih Q c h, fun Q c h => ss_ss ih Q c h⟩
end
end Mi
end
section
set_option autoImplicit false
set_option Elab.async false
set_option linter.all false
set_option maxRecDepth 100000
set_option maxHeartbeats 1600000
/-! Plain parameters, all of them given. -/
namespace Mi
open PySem L2 PyProof.Rows
theorem zip_look : ∀ {ps : List Str} {us : List Value} {x : Str}, us.length = ps.length → x ∈ ps → ∃ u, (ps.zip us).lookup x = some u
  | [], _, _, _, h => by cases h
  | p :: ps, [], _, h, _ => by cases h
  | p :: ps, u :: us, x, hl, h => by
    rw [List.zip_cons_cons, List.lookup_cons]
    cases q : x == p with
    | true => exact ⟨u, rfl⟩
    | false =>
      have : x ∈ ps := by
        rcases List.mem_cons.mp h with z | z
        · rw [z] at q; simp at q
        · exact z
      exact zip_look (by simpa using hl) this
theorem zip_again : ∀ {ps : List Str} {us : List Value} (pre : List (Str × Value)), ps.Nodup → us.length = ps.length → (∀ p ∈ pre, p.1 ∉ ps) → ps.filterMap (fun n => ((pre ++ ps.zip us).lookup n).map (n, ·)) = ps.zip us
  | [], [], _, _, _, _ => rfl
  | p :: ps, [], _, _, h, _ => by cases h
  | p :: ps, u :: us, pre, nd, hl, hp => by
    obtain ⟨n1, n2⟩ := List.nodup_cons.mp nd
    have e1 : (pre ++ (p :: ps).zip (u :: us)).lookup p = some u := by
      rw [List.zip_cons_cons]
      clear nd hl n2
      induction pre with
      | nil => rw [List.nil_append, List.lookup_cons_self]
      | cons a r ih =>
        rw [List.cons_append, List.lookup_cons]
        have : (p == a.1) = false := by
          rw [beq_eq_false_iff_ne]
          intro z
          exact hp a (List.mem_cons_self) (by rw [← z]; exact List.mem_cons_self)
        rw [this]
        exact ih fun q hq => hp q (List.mem_cons_of_mem _ hq)
    rw [List.filterMap_cons, e1]
    show (p, u) :: _ = _
    rw [List.zip_cons_cons]
    have : pre ++ (p, u) :: ps.zip us = (pre ++ [(p, u)]) ++ ps.zip us := by simp
    rw [this, zip_again (pre ++ [(p, u)]) n2 (by simpa using hl)]
    intro q hq
    rcases List.mem_append.mp hq with z | z
    · exact fun y => hp q z (List.mem_cons_of_mem _ y)
    · rw [List.mem_singleton.mp z]
      exact n1
theorem none_missing {ps : List Str} {us : List Value} (hl : us.length = ps.length) : (ps.filter fun n => ((ps.zip us).lookup n).isNone) = [] := by
  rw [List.filter_eq_nil_iff]
  intro x hx
  obtain ⟨u, e⟩ := zip_look hl hx
  rw [e]
  simp
theorem bind_plain {name qual : Str} {args : List Arg} {dfl : List Expr} {body : List Stmt} {sc : Scope} {kV doc pm : Value} {an : Option Addr} {cdv ct : Value} {us : List Value} (nd : (args.map (·.arg)).Nodup) (hl : us.length = (args.map (·.arg)).length) :
    bindArgs (PySem.W.fnOf name qual ⟨[], args, none, [], [], none, dfl⟩ body sc .none kV doc pm an cdv ct) ⟨us, []⟩ = pure ((args.map (·.arg)).zip us) := by
  have h0 : ∀ (c : Bool) (a b : Sem (List (Str × Value))), c = false → (if c = true then a else b) = b := fun c a b h => by rw [h]; rfl
  have hgt : ¬ us.length > (args.map (·.arg)).length := by omega
  unfold bindArgs PySem.W.fnOf
  simp only [List.map_nil, List.nil_append, List.append_nil]
  have e1 : seqItems? .none = pure none := rfl
  simp only [e1]
  generalize List.map (fun x : Arg => x.arg) args = ps at *
  have tk : List.take ps.length ps = ps := List.take_length
  have hm := none_missing hl
  have hz := zip_again (us := us) [] nd hl (fun p hp => absurd hp (by simp))
  simp only [List.nil_append] at hz
  simp [hgt, hm, hz, tk]
  done
end Mi
end
section
set_option autoImplicit false
set_option Elab.async false
set_option linter.all false
set_option maxRecDepth 100000
set_option maxHeartbeats 1600000
/-! All defs, level by level. -/
namespace Mi
open PySem L2 PyProof.Rows
structure KnwS (P : Program) (w : World) (K : PySem.W.Frag) (mg : Str → Option Value) (base : Heap) (L : Ln) (T : Tab) where
  gT : T.g = L.g
  cls : ∀ c, c < L.g.cls.length → Cls K (L.cad c)
  keepc : ∀ c, c < L.g.cls.length → PySem.W.keepIn K (.ref (L.cad c)) = true
  meth : ∀ c cl m f, L.g.cls[c]? = some cl → mlook cl.meths m = some f → Meth K (L.cad c) (L.an m) (L.fad f)
  init : ∀ c cl f, L.g.cls[c]? = some cl → cl.init = some f → Mk K (L.cad c) (L.fad f)
  noat : ∀ c k, noMeth L.g c k = true → NoAttr K (L.cad c) (L.an k)
  inj : ∀ i j, L.an i = L.an j → i = j
  mrp : ∀ (c : Nat) (cl : Cl) (m f : Nat), L.g.cls[c]? = some cl → mlook cl.meths m = some f → L.rp f = false
  irp : ∀ (c : Nat) (cl : Cl) (f : Nat), L.g.cls[c]? = some cl → cl.init = some f → L.rp f = false
  rps : L.rp = T.rp
  isi : Isi K L
  glob : ∀ x g, T.glob.lookup x = some g → GOk P w K mg L x g
  free : ∀ x, T.free.contains x = true → mg x = none
  an : ∀ i s, T.an[i]? = some s → L.an i = s
  rep : L.g.rep = repD
  err : ∀ c, T.errs.contains c = true → ErrK P w K mg base (L.cad c)
  rfo : ∀ hs, L.g.rfs[0]? = some hs → RfOk K L hs
  rf : ∀ hs, L.g.rfs[0]? = some hs → RfK K mg L hs
/-- a lambda's name -/
def lamQ (qual : Str) : Str := (qual ++ (".<locals>." : Str)) ++ ("<lambda>" : Str)
/-- a def as it stands, and its mini text -/
structure DefK (K : PySem.W.Frag) (mg : Str → Option Value) (base : Heap) (L : Ln) (T : Tab) (fuel : Nat) (fi : Nat) (fn : Fn) where
  name : Str
  qual : Str
  params : Arguments
  body : List Stmt
  sc : Scope
  {dV kV doc pm cdv ct oc : Value}
  {an od : Option Addr}
  {osl : Array (Option Value)}
  N : List Str
  ps : List Str
  lam : Bool
  lk : K.lookup (L.fad fi) = some ⟨oc, od, .func (PySem.W.fnOf name qual params body sc dV kV doc pm an cdv ct), osl⟩
  hcd : PySem.W.codeIn K cdv qual = true
  S : FnScope N ps sc
  hnp : fn.np = ps.length
  hns : fn.ns = N.length
  kp : PySem.W.keepIn K (.ref (L.fad fi)) = true
  bd : L2.Binds K (PySem.W.fnOf name qual params body sc dV kV doc pm an cdv ct) ps []
  hm : mSs fuel T ⟨N, sc, fun _ => true, lam, T.rp fi⟩ body fn.body = true
  hl : lam = true → ∃ c Pt, cdv = .ref c ∧ LamX.TabB base mg c Pt ∧ (Pt, lamQ qual) ∈ L.T ∧ ∀ p ∈ L.T, p.1 = Pt → p.2 = lamQ qual
section
variable {P : Program} {w : World} {K : PySem.W.Frag} {mg : Str → Option Value} {base : Heap} {L : Ln} {T : Tab} {fuel : Nat}
abbrev DefK.fd {fi : Nat} {fn : Fn} (D : DefK K mg base L T fuel fi fn) : FuncData := PySem.W.fnOf D.name D.qual D.params D.body D.sc D.dV D.kV D.doc D.pm D.an D.cdv D.ct
/-- one def, one level up -/
theorem def_up {n k : Nat} {fi : Nat} {fn : Fn} (Q : Knw P w K mg base L (callD L.g n) T k) (hf : L.g.fns[fi]? = some fn) (D : DefK K mg base L T fuel fi fn) (hrp : L.rp = T.rp) :
    FnG P w K mg base (k + 4) (L.rp fi) (L.fad fi) D.fd D.ps (spD P w K L fn.np (callD L.g (n + 1)) fi) := by
  rw [D.hnp]
  refine fnG_of (k := k + 3) D.lk D.hcd D.S hf D.hnp D.hns fun A outer s H E w0 hr hg => ?_
  have c : CtxS (cxOf (L2.CX P w) P w K mg base D.N D.qual D.sc (L.fad fi) D.cdv A outer s H E) L ⟨D.N, D.sc, fun _ => true, D.lam, T.rp fi⟩ k (fun c d _ H => E c d H) := {
    calm := rfl
    gd := fun z => by
      have := hg (by rw [hrp]; exact z)
      exact this
    room := hr.mono (by omega)
    tk := takes_of rfl rfl rfl rfl
    N := rfl
    nd := D.S.nd
    sc := rfl
    fn := rfl
    lam := fun z => by
      obtain ⟨c, Pt, e, h1, h2, h3⟩ := D.hl z
      exact ⟨hr, c, Pt, e, h1, h2, h3⟩
    own := passes_of rfl
    room3 := hr.mono (by omega)
    kind := D.S.kind }
  exact (sndS T fuel).ss (X := cxOf (L2.CX P w) P w K mg base D.N D.qual D.sc (L.fad fi) D.cdv A outer s H E) (w0 := w0) Q c D.hm
/-- every def at every level -/
noncomputable def level (S : KnwS P w K mg base L T) (D : ∀ fi fn, L.g.fns[fi]? = some fn → DefK K mg base L T fuel fi fn) : ∀ n : Nat, Knw P w K mg base L (callD L.g n) T (4 * n) := fun n => by
  have fdef : ∀ fi : Nat, ∃ fp : FuncData × List Str, ∀ fn (h : L.g.fns[fi]? = some fn), fp.1 = (D fi fn h).fd ∧ fp.2 = (D fi fn h).ps := fun fi => by
    by_cases h : ∃ fn, L.g.fns[fi]? = some fn
    · obtain ⟨fn, h⟩ := h
      refine ⟨((D fi fn h).fd, (D fi fn h).ps), fun fn' z => ?_⟩
      have e : fn' = fn := Option.some.inj (z.symm.trans h)
      subst e
      exact ⟨rfl, rfl⟩
    · exact ⟨(default, []), fun fn z => absurd ⟨fn, z⟩ h⟩
  have key : ∀ n, Nonempty (Knw P w K mg base L (callD L.g n) T (4 * n)) := by
    intro n
    induction n with
    | zero =>
      exact ⟨{
        gT := S.gT, cls := S.cls, keepc := S.keepc, meth := S.meth, init := S.init, noat := S.noat, inj := S.inj, mrp := S.mrp, irp := S.irp, isi := S.isi, glob := S.glob, free := S.free, an := S.an, rep := S.rep, err := S.err, rfo := S.rfo, rf := S.rf
        rps := fun f h => by rw [S.rps]; exact h
        fd := fun fi => (Classical.choose (fdef fi)).1
        ps := fun fi => (Classical.choose (fdef fi)).2
        fns := fun fi fn h => by
          obtain ⟨e1, e2⟩ := Classical.choose_spec (fdef fi) fn h
          rw [e1, e2]
          refine ⟨⟨fun vs H Qv E ⟨ds, hh, wd, _, _, _, _, rv, hl, _⟩ => by rw [← rv.len, hl, (D fi fn h).hnp], fun A outer s H args us vs Qv E _ _ _ _ _ z => ?_⟩, (D fi fn h).bd, (D fi fn h).kp⟩
          obtain ⟨ds, hh, wd, _, _, _, _, _, _, p⟩ := z
          rw [callD] at p
          exact p.elim
        dead := fun f ds h _ => by rw [callD]
        np := fun f fn ds h _ _ => by rw [callD] }⟩
    | succ n ih =>
      obtain ⟨Q⟩ := ih
      exact ⟨{
        gT := S.gT, cls := S.cls, keepc := S.keepc, meth := S.meth, init := S.init, noat := S.noat, inj := S.inj, mrp := S.mrp, irp := S.irp, isi := S.isi, glob := S.glob, free := S.free, an := S.an, rep := S.rep, err := S.err, rfo := S.rfo, rf := S.rf
        rps := fun f h => by rw [S.rps]; exact h
        fd := fun fi => (Classical.choose (fdef fi)).1
        ps := fun fi => (Classical.choose (fdef fi)).2
        fns := fun fi fn h => by
          obtain ⟨e1, e2⟩ := Classical.choose_spec (fdef fi) fn h
          rw [e1, e2]
          exact ⟨def_up Q h (D fi fn h) S.rps, (D fi fn h).bd, (D fi fn h).kp⟩
        dead := fun f ds h e => by rw [callD, e]
        np := fun f fn ds h e ne => by
          rw [callD, e]
          dsimp only
          rw [if_neg ne] }⟩
  exact Classical.choice (key n)
end
end Mi
end
section
set_option autoImplicit false
set_option Elab.async false
set_option linter.all false
set_option maxRecDepth 100000
set_option maxHeartbeats 1600000
/-! The end of a law row, for a promise that is told where no repr runs around. -/
namespace Mi
open PySem PySem.Spec PyProof.Rows L2
/-- the abstract heap at the law's call: the tables ts; the script at a, if the written part does not hold it -/
def hp0 (K : PySem.W.Frag) (ts : List Addr) (a : Addr) (so : Obj) (ns : List Int) : Hp := fun b =>
  if b ∈ ts then some (.tbl #[]) else if b = a ∧ K.lookup a = none then some (.frz so (.lst (ns.map V.int))) else none
section
variable {K : PySem.W.Frag} {ts : List Addr} {a : Addr} {so : Obj} {ns : List Int}
theorem hp0_tab {b : Addr} (h : b ∈ ts) : hp0 K ts a so ns b = some (.tbl #[]) := if_pos h
theorem hp0_tri (b : Addr) : (b ∈ ts ∧ hp0 K ts a so ns b = some (.tbl #[])) ∨ (b ∉ ts ∧ b = a ∧ K.lookup a = none ∧ hp0 K ts a so ns b = some (.frz so (.lst (ns.map V.int)))) ∨ (b ∉ ts ∧ hp0 K ts a so ns b = none) := by
  by_cases h : b ∈ ts
  · exact .inl ⟨h, if_pos h⟩
  · by_cases h2 : b = a ∧ K.lookup a = none
    · exact .inr (.inl ⟨h, h2.1, h2.2, (if_neg h).trans (if_pos h2)⟩)
    · exact .inr (.inr ⟨h, (if_neg h).trans (if_neg h2)⟩)
end
section
variable {P : Program} {w : World} {K : PySem.W.Frag} {mg mb : Str → Option Value} {k : Nat} {rp : Bool} {fa a : Addr} {cs : List (Addr × Addr)} {fd : FuncData} {x : Str} {sp : Sp} {s : Shared} {vs : List Value} {ns : List Int}
theorem law_callG (inK : K.In s.heap) (nsM : s.heap.Ns mainGlobals mg) (nsB : s.heap.Ns builtinsNs mb) (eqB : ∀ x : Str, x ≠ "__name__" → mb x = bootBuiltins x) (nl : s.heap.NoLimit) (g0 : s.gens = #[])
    (tE : ∀ p ∈ cs, s.heap.get? p.2 = some { cls := .none, data := .fields #[] }) (tK : ∀ p ∈ cs, K.lookup p.2 = none) (tC : ∀ p ∈ cs, PySem.W.CodeHd s.heap p.1 p.2)
    (bM : ∃ (bm : Addr) (ob : Obj), mg "__builtins__" = some (.ref bm) ∧ bm ≠ builtinsNs ∧ s.heap.get? bm = some ob ∧ ob.cls = .type "module" ∧ ob.dict = some builtinsNs ∧ ob.data = .plain)
    (oa : s.heap.get? a = some { cls := .type "list", data := .seq vs.toArray }) (iv : IntsAre vs ns) (ln : ns.length ≤ sizeLine) (room : Room k callerA)
    (F : ∀ base : Heap, K.In base → base.Ns mainGlobals mg → (∀ p ∈ cs, LamX.TabB base mg p.1 p.2) → FnG P w K mg base k rp fa fd [x] sp) (bd : ∀ (s : Shared) (u : Value), BindsTo s fd ⟨[u], []⟩ [(x, u)])
    (told : ∀ H : Hp, (∀ p ∈ cs, H p.2 = some (.tbl #[])) → SqL K H a (ns.map V.int) → sp [.ref a] H (fun v _ => v = .bl true) fun _ _ _ => False) :
    codeAny (model P w) callerA (.call (.ref fa) ⟨[.ref a], []⟩) (fun r s' => r = .ok (.ret (.bool true)) ∧ OldK s.heap s'.heap ∧ s'.os = s.os ∧ AllBare s'.gens) s := by
  let so : Obj := { cls := .type "list", data := .seq vs.toArray }
  let ts : List Addr := cs.map (·.2)
  let H : Hp := hp0 K ts a so ns
  have ofT : ∀ {b : Addr}, b ∈ ts → ∃ p ∈ cs, p.2 = b := fun hb => List.mem_map.mp hb
  have inT : ∀ p ∈ cs, p.2 ∈ ts := fun p hp => List.mem_map.mpr ⟨p, hp, rfl⟩
  have objT : ∀ {b : Addr}, b ∈ ts → s.heap.get? b = some { cls := .none, data := .fields #[] } := fun hb => by
    obtain ⟨p, hp, rfl⟩ := ofT hb
    exact tE p hp
  have vals := vals_ints iv
  -- what is tracked is an empty table, or the script's list
  have seen : ∀ {b : Addr} {o : Obj}, s.heap.get? b = some o → H b = none ∨ (o.cls = .none ∧ o.data = .fields #[]) ∨ (b = a ∧ K.lookup a = none ∧ o = so) := fun {b o} e => by
    rcases hp0_tri (K := K) (ts := ts) (a := a) (so := so) (ns := ns) b with ⟨h1, _⟩ | ⟨_, h2, h3, _⟩ | ⟨_, h⟩
    · refine .inr (.inl ?_)
      rw [objT h1] at e
      cases e
      exact ⟨rfl, rfl⟩
    · refine .inr (.inr ⟨h2, h3, ?_⟩)
      rw [h2, oa] at e
      exact (Option.some.inj e).symm
    · exact .inl h
  have free : ∀ {b : Addr} {o : Obj}, s.heap.get? b = some o → (o.cls ≠ .none ∨ o.data ≠ .fields #[]) → (∀ us n, o.data ≠ .seq us n) → H b = none := fun {b o} e n1 n2 => by
    rcases seen e with h | ⟨h1, h2⟩ | ⟨_, _, h⟩
    · exact h
    · exact (n1.elim (fun z => z h1) fun z => z h2).elim
    · exact (n2 vs.toArray _ (by rw [h])).elim
  have hid : ∀ {b : Addr} {o : Obj}, s.heap.get? b = some o → (o.cls ≠ .none ∨ o.data ≠ .fields #[]) → (∀ us n, o.data ≠ .seq us n) → (hidT s.heap H).get? b = some o := fun e n1 n2 => hidT_get e (free e n1 n2)
  have dict : ∀ {b : Addr} {m : Str → Option Value}, s.heap.Ns b m → (hidT s.heap H).Ns b m := fun {b m} z => by
    obtain ⟨o, es, ep, e, d, r⟩ := z
    refine ⟨o, es, ep, hid e (.inr fun z => ?_) fun us n z => ?_, d, r⟩ <;> (rw [d] at z; cases z)
  have kin : K.In (hidT s.heap H) := fun b o e => hidT_get (inK b o e) (by
    rcases hp0_tri (K := K) (ts := ts) (a := a) (so := so) (ns := ns) b with ⟨h1, _⟩ | ⟨_, h2, h3, _⟩ | ⟨_, h⟩
    · obtain ⟨p, hp, q⟩ := ofT h1
      rw [← q, tK p hp] at e
      cases e
    · rw [h2, h3] at e
      cases e
    · exact h)
  have lim : (hidT s.heap H).NoLimit := by
    obtain ⟨mc, h1, h2⟩ := nl
    exact ⟨mc, dict h1, h2⟩
  have gne : ∀ {b : Addr} {o : Obj}, s.heap.get? b = some o → (∀ es n, o.data ≠ .dict es n) → mainGlobals ≠ b := fun {b o} e n z => by
    obtain ⟨o', es, ep, e', d, _⟩ := nsM
    rw [z, e] at e'
    cases e'
    exact n _ _ d
  have tabs : ∀ p ∈ cs, LamX.TabB (hidT s.heap H) mg p.1 p.2 := fun p hp => by
    refine ⟨?_, ?_, gne (tE p hp) fun es n z => by cases z⟩
    · obtain ⟨o, us, file, tf, flags, tg, inF, text, tt, e1, r1, rest⟩ := tC p hp
      exact ⟨o, us, file, tf, flags, tg, inF, text, tt, hid e1 (.inl fun z => by rw [r1] at z; cases z) (fun us' n z => by rw [rest.1] at z; cases z), r1, rest⟩
    · obtain ⟨bm, ob, b1, b2, b3, b4, b5, b6⟩ := bM
      refine ⟨bm, ob, b1, b2, fun z => ?_, fun z => ?_, hid b3 (.inl fun z => by rw [b4] at z; cases z) (fun us' n z => by rw [b6] at z; cases z), b4, b5, b6⟩
      · exact gne b3 (fun es n q => by rw [b6] at q; cases q) z.symm
      · rw [z, tE p hp] at b3
        cases b3
        cases b4
  have hok : HOk P w H s.heap := fun b u e => by
    rcases hp0_tri (K := K) (ts := ts) (a := a) (so := so) (ns := ns) b with ⟨h1, h2⟩ | ⟨_, h2, _, h4⟩ | ⟨_, h⟩
    · cases h2.symm.trans e
      exact objT h1
    · cases h4.symm.trans e
      rw [h2]
      exact ⟨oa, by rw [List.length_map]; exact ln, vs, _, vals, oa⟩
    · cases h.symm.trans e
  have sq : SqL K H a (ns.map V.int) := by
    cases hk : K.lookup a with
    | some o =>
      have e := inK a o hk
      rw [oa] at e
      cases e
      exact .inr ⟨_, vs.toArray, _, hk, rfl, rfl, rfl, by rw [List.size_toArray, iv.length]; exact ln, by simpa using vals⟩
    | none =>
      have aT : a ∉ ts := fun z => by
        have q := objT z
        rw [oa] at q
        cases q
      exact .inl (.inr ⟨so, (if_neg aT).trans (if_pos ⟨rfl, hk⟩)⟩)
  have env : Env0 P w K mg (hidT s.heap H) callerA [] s H := ⟨rfl, ⟨kin, dict nsM, ⟨mb, dict nsB, eqB⟩, lim⟩, fun b o e => of_hidT e, Nat.le_of_eq (hidT_size _ _), trivial, fun b hb => absurd (show b ∈ ([] : List Addr) from hb) (by simp), hok, .of_eq g0⟩
  refine codeAny_mono ((F _ kin (dict nsM) tabs).run callerA [] s H ⟨[.ref a], []⟩ [.ref a] [.ref a] _ _ room (fun _ => rfl) env (bd s (.ref a)) (.cons rfl .nil) (told H (fun p hp => hp0_tab (inT p hp)) sq)) fun r s' out => ?_
  cases r with
  | error e =>
    obtain ⟨_, _, _, _, _, _, _, _, _, _, _, _, z⟩ := out
    exact z.elim
  | ok fl =>
    cases fl with
    | ret u =>
      obtain ⟨v, H', os, bare, un, hok', rel, q⟩ := out
      have q : v = .bl true := q
      subst q
      obtain rfl : u = Value.bool true := rel
      have noFr : ∀ b : Addr, b ∉ frs ([] : List Env) := fun b hb => absurd (show b ∈ ([] : List Addr) from hb) (by simp)
      have grown : ∀ {b : Addr}, b ∈ ts → ∃ more : Array Value, s'.heap.get? b = some { cls := .none, data := .fields more } := fun {b} hb => by
        obtain ⟨more, z⟩ := un.tbls b #[] (hp0_tab hb)
        exact ⟨_, hok' b _ z⟩
      have same : ∀ b o, b ∉ ts → s.heap.get? b = some o → s'.heap.get? b = some o := fun b o nb e => by
        rcases hp0_tri (K := K) (ts := ts) (a := a) (so := so) (ns := ns) b with ⟨h1, _⟩ | ⟨_, h2, _, h4⟩ | ⟨_, h⟩
        · exact absurd h1 nb
        · obtain ⟨e2, _⟩ := hok' b _ (un.frzs b _ _ h4)
          rw [h2, oa] at e
          cases e
          exact e2
        · exact un.keep b o e h (noFr b) (by simp)
      refine ⟨rfl, ⟨fun b o e => ?_, fun b o e => ?_⟩, os, bare⟩
      · by_cases hb : b ∈ ts
        · obtain ⟨more, hm⟩ := grown hb
          obtain ⟨p, hp, rfl⟩ := ofT hb
          rw [tE p hp] at e
          cases e
          exact .inr (.inl ⟨((tC p hp).tab (tE p hp)).isCodeTable, rfl, #[], more, rfl, by rw [Array.empty_append]; exact hm⟩)
        · exact .inl (same b o hb e)
      · by_cases hb : b ∈ ts
        · obtain ⟨more, hm⟩ := grown hb
          exact ⟨_, hm⟩
        · exact ⟨o, same b o hb e⟩
    | next => exact False.elim out
    | brk => exact False.elim out
    | cont => exact False.elim out
/-- the whole end -/
theorem walk_ofG {l : PySem.W.OpenLaw} {n k : Nat} {rp : Bool} {q : Program} {loose : List Str} {XP : (Str → Option Value) → Heap → Prop} {YP : World → Heap → Prop} {d : DefRec} {x : Str}
    (most : l.most = some n) (small : n ≤ sizeLine) (nodf : d.params.defaults = []) (room : Room k callerA)
    (F : ∀ (w : World) (mg : Str → Option Value) (fa : Addr) (h : Heap), YP w h → h.Ns mainGlobals mg → mg d.name = some (.ref fa) → ∃ (K : PySem.W.Frag) (fd : FuncData) (cs : List (Addr × Addr)) (sp : Sp), K.In h ∧ (∀ p ∈ cs, h.get? p.2 = some { cls := .none, data := .fields #[] }) ∧
      (∀ p ∈ cs, K.lookup p.2 = none) ∧ (∀ p ∈ cs, PySem.W.CodeHd h p.1 p.2) ∧ (∀ (s : Shared) (u : Value), BindsTo s fd ⟨[u], []⟩ [(x, u)]) ∧
      (∀ (H : Hp) (a : Addr) (ns : List Int), ns.length ≤ n → (∀ z ∈ ns, Builtin.Int.intBits z ≤ 1048576) → (∀ p ∈ cs, H p.2 = some (.tbl #[])) → SqL K H a (ns.map V.int) → sp [.ref a] H (fun v _ => v = .bl true) fun _ _ _ => False) ∧
      ∀ base : Heap, K.In base → base.Ns mainGlobals mg → (∀ p ∈ cs, LamX.TabB base mg p.1 p.2) → FnG l.prog w K mg base k rp fa fd [x] sp) :
    PySem.W.WalkO q loose XP YP l.row.toRowW d [] (fun f vs => PySem.call f vs) := by
  refine Att.attach_callB most nodf fun w s₀ s₁ mg mb fa o pm cd doc a vs ns G Y ho hd hcd hmg hobj hints hlen hbits hg => ?_
  obtain ⟨K, fd, cs, sp, h1, h2, h3, h4, h5, h6, h7⟩ := F w mg fa _ Y G.T.g hmg
  exact law_callG h1 G.T.g G.T.b G.T.builtins G.T.nolimit hg h2 h3 h4 G.T.bmain hobj hints (Nat.le_trans hlen small) room h7 h5 fun H hH hS => h6 H a ns hlen hbits hH hS
end
end Mi
end
section
set_option autoImplicit false
set_option Elab.async false
set_option linter.all false
set_option maxRecDepth 100000
set_option maxHeartbeats 1600000
/-! What the head tells, as one Bool of the text and one of the written part. -/
namespace Mi
open PySem PySem.Spec PyProof.Rows L2
structure DefQ where
  cls : Option Str
  name : Str
  args : Arguments
  body : List Stmt
  sc : Scope
def inCls (c : Str) : List Stmt → List DefQ
  | [] => []
  | .FunctionDef n a b _ _ _ sc _ _ _ :: r => ⟨some c, n, a, b, sc⟩ :: inCls c r
  | _ :: r => inCls c r
/-- the defs of a text, in order; those of error classes and `_law_refused` apart -/
def defsIn : List Stmt → List DefQ
  | [] => []
  | .FunctionDef n a b _ _ _ sc _ _ _ :: r => if n = ("_law_refused" : Str) then defsIn r else ⟨none, n, a, b, sc⟩ :: defsIn r
  | .ClassDef n bs _ b _ _ _ _ _ _ _ :: r => if bs.isEmpty then inCls n b ++ defsIn r else defsIn r
  | _ :: r => defsIn r
def refIn : List Stmt → List DefQ
  | [] => []
  | .FunctionDef n a b _ _ _ sc _ _ _ :: r => if n = ("_law_refused" : Str) then ⟨none, n, a, b, sc⟩ :: refIn r else refIn r
  | _ :: r => refIn r
def errIn : List Stmt → List DefQ
  | [] => []
  | .ClassDef n bs _ b _ _ _ _ _ _ _ :: r => if bs.isEmpty then errIn r else inCls n b ++ errIn r
  | _ :: r => errIn r
structure Pg where
  g : G
  body : List Stmt
  slots : List (List Str)
  globF : List (Str × Nat)
  globC : List (Str × Nat)
  globD : List (Str × D)
  free : List Str
  attrs : List Str
  errs : List Nat
  rp : List Bool
  cn : List Str
  subs : List (Nat × Nat)
  /-- the defs in which lambdas are written -/
  lams : List Nat
def DefQ.at_ (q : DefQ) : Str × Option Str := match q.cls with
  | none => (q.name, none)
  | some c => (c, some q.name)
def DefQ.qual (q : DefQ) : Str := match q.cls with
  | none => q.name
  | some c => c ++ (("." : Str) ++ q.name)
def DefQ.d (q : DefQ) (dfl : List He.Dv) : He.DefD := ⟨q.at_, q.name, q.qual, q.args, q.body, q.sc, dfl, []⟩
def noDef : DefQ := ⟨none, Str.empty, ⟨[], [], none, [], [], none, []⟩, [], ⟨.function, [], false, false, []⟩⟩
namespace Pg
variable (p : Pg)
def defs : List DefQ := defsIn p.body
def def_ (i : Nat) : DefQ := p.defs.getD i noDef
def tab : Tab := ⟨p.g, p.globF.map (fun q => (q.1, GK.fn q.2)) ++ (p.globC.map (fun q => (q.1, GK.cls q.2)) ++ p.globD.map (fun q => (q.1, GK.con q.2))), p.free, p.attrs, p.errs, fun i => p.rp.getD i false⟩
/-- the defs with tables -/
def tf : List He.Defn := p.lams.map fun i => (p.def_ i).at_
/-- all that the hook names -/
def fnD : List He.DefD := p.defs.map (DefQ.d · []) ++ ((refIn p.body).map (DefQ.d · []) ++ (errIn p.body).map (DefQ.d · [.non]))
def an (i : Nat) : Str := match p.attrs[i]? with
  | some s => s
  | none => ⟨(List.replicate (i + 1) 1).toArray⟩
def ln (K : PySem.W.Frag) : Ln where
  g := p.g
  fad := fun i => He.fAd K (p.def_ i).at_
  cad := fun c => He.ga K (p.cn.getD c Str.empty)
  an := p.an
  T := p.lams.map fun i => ((He.cT K (p.def_ i).at_).2, lamQ (p.def_ i).qual)
  rp := fun i => p.rp.getD i false
end Pg
/-! ### the text's Bool -/
def plainPs : Arguments → Option (List Str)
  | ⟨[], as, none, [], [], none, []⟩ => some (as.map (·.arg))
  | _ => none
def scopeB (N ps : List Str) (sc : Scope) : Bool :=
  decide (sc.kind = .function) && (!sc.isCoroutine && (!sc.isGenerator && (decide N.Nodup && (decide (N.take ps.length = ps) && ((ps.all fun x => decide (sc.names.lookup x = some .local) || decide (sc.names.lookup x = some .cell)) && sc.names.all fun y => !decide (y.2 = .free))))))
theorem scopeB_ok {N ps : List Str} {sc : Scope} (h : scopeB N ps sc = true) : FnScope N ps sc := by
  obtain ⟨h1, h⟩ := and2 h
  obtain ⟨h2, h⟩ := and2 h
  obtain ⟨h3, h⟩ := and2 h
  obtain ⟨h4, h⟩ := and2 h
  obtain ⟨h5, h⟩ := and2 h
  obtain ⟨h6, h7⟩ := and2 h
  refine ⟨of_decide_eq_true h1, ntr h2, ntr h3, of_decide_eq_true h4, of_decide_eq_true h5, fun x hx => ?_, fun y hy e => ?_⟩
  · rcases or2 (all_mem h6 x hx) with z | z
    · exact .inl (of_decide_eq_true z)
    · exact .inr (of_decide_eq_true z)
  · have := all_mem h7 y hy
    rw [decide_eq_true e] at this
    cases this
def defB (p : Pg) (fuel i : Nat) (q : DefQ) (sl : List Str) (fn : Fn) : Bool := match plainPs q.args with
  | some ps => decide ps.Nodup && (scopeB sl ps q.sc && (decide (fn.np = ps.length) && (decide (fn.ns = sl.length) && mSs fuel p.tab ⟨sl, q.sc, fun _ => true, p.lams.contains i, p.rp.getD i false⟩ q.body fn.body)))
  | none => false
def defsB (p : Pg) (fuel : Nat) : Nat → List DefQ → List (List Str) → List Fn → Bool
  | _, [], [], [] => true
  | i, q :: qs, sl :: sls, fn :: fns => defB p fuel i q sl fn && defsB p fuel (i + 1) qs sls fns
  | _, _, _, _ => false
theorem defsB_at {p : Pg} {fuel : Nat} : ∀ {i : Nat} {qs : List DefQ} {sls : List (List Str)} {fns : List Fn}, defsB p fuel i qs sls fns = true → ∀ {j : Nat} {fn : Fn}, fns[j]? = some fn → ∃ q sl, qs[j]? = some q ∧ sls[j]? = some sl ∧ defB p fuel (i + j) q sl fn = true
  | i, [], [], [], _, j, fn, e => by simp at e
  | i, q :: qs, sl :: sls, fn :: fns, h, 0, fn', e => by
    obtain ⟨h1, h2⟩ := and2 (show (defB p fuel i q sl fn && defsB p fuel (i + 1) qs sls fns) = true from h)
    cases e
    exact ⟨q, sl, rfl, rfl, h1⟩
  | i, q :: qs, sl :: sls, fn :: fns, h, j + 1, fn', e => by
    obtain ⟨h1, h2⟩ := and2 (show (defB p fuel i q sl fn && defsB p fuel (i + 1) qs sls fns) = true from h)
    obtain ⟨q', sl', e1, e2, e3⟩ := defsB_at h2 (j := j) (fn := fn') (by simpa using e)
    exact ⟨q', sl', by simpa using e1, by simpa using e2, by rw [show i + (j + 1) = i + 1 + j by omega]; exact e3⟩
  | i, [], [], _ :: _, h, _, _, _ => by cases h
  | i, [], _ :: _, _, h, _, _, _ => by cases h
  | i, _ :: _, [], _, h, _, _, _ => by cases h
  | i, _ :: _, _ :: _, [], h, _, _, _ => by cases h
def attrB (s : Str) : Bool := match s.cps.toList with
  | 1 :: _ => false
  | _ => true
/-- the clauses of `_law_refused` -/
def hdsB (T : Tab) (n : Str) (sc : Scope) : List ExceptHandler → List (Nat × List Nat) → Bool
  | [], [] => true
  | .ExceptHandler (some (.Name x _)) (some m) [.Return (some (.Tuple [.Constant (.str z) _ _, .Attribute (.Name m2 _) f _] _ _)) _] _ :: r, (c, ws) :: hs =>
    decide (m = n) && (decide (m2 = n) && (decide (f = ("value" : Str)) && (decide (z = strV ws) && (glB sc x && (decide (T.glob.lookup x = some (.cls c)) && hdsB T n sc r hs)))))
  | _, _ => false
def hdName : ExceptHandler → Str
  | .ExceptHandler _ (some n) _ _ => n
  | _ => Str.empty
def rfB (T : Tab) (q : DefQ) (hs : List (Nat × List Nat)) : Bool := match q.args, q.body with
  | ⟨[], [a], none, [], [], none, []⟩, [.Try [.Expr (.Call (.Name x _) [] [] _) _] (h0 :: hds) [] [] _, .Return (some (.Tuple [.Constant (.str z) _ _, .Constant .none _ _] 0 _)) _] =>
    decide (x = a.arg) && (decide (z = Str.ofString "") && (decide (q.name = ("_law_refused" : Str)) && (decide (q.cls = none) && (scopeB [a.arg, hdName h0] [a.arg] q.sc && (visB q.sc a.arg && (nmOk a.arg && (nmOk (hdName h0) && (decide (q.sc.names.lookup (hdName h0) = some .local) && hdsB T (hdName h0) q.sc (h0 :: hds) hs))))))))
  | _, _ => false
/-- the errors' __init__ -/
def errB (q : DefQ) : Bool := match q.args, q.body with
  | ⟨[], [s, v], none, [], [], none, [.Constant .none _ _]⟩, [.Assign [.Attribute (.Name s2 _) f _] (.Name v2 _) _] =>
    decide (s.arg = ("self" : Str)) && (decide (v.arg = ("value" : Str)) && (decide (s2 = ("self" : Str)) && (decide (v2 = ("value" : Str)) && (decide (f = ("value" : Str)) && scopeB ["self", "value"] ["self", "value"] q.sc))))
  | _, _ => false
def statB (p : Pg) (fuel : Nat) : Bool :=
  defsB p fuel 0 p.defs p.slots p.g.fns && (decide p.attrs.Nodup && (p.attrs.all attrB && (decide (p.g.na = p.attrs.length) && ((p.g.cls.all fun cl => (cl.meths.all fun m => !p.rp.getD m.2 false) && (match cl.init with
    | some f => !p.rp.getD f false
    | none => true)) && ((p.subs.all fun q => decide (q.1 < p.cn.length)) && (decide (p.g.cls.length ≤ p.cn.length) && (decide p.lams.Nodup && ((match refIn p.body, p.g.rfs with
    | [q], [hs] => rfB p.tab q hs
    | [], [] => true
    | _, _ => false) && (match errIn p.body with
    | [q] => errB q
    | [] => p.errs.isEmpty
    | _ => false)))))))))
/-! ### the written part's Bool -/
section
variable (p : Pg) (K : PySem.W.Frag)
mutual
def conV : Value → D → Bool
  | u, .non => (match u with | .none => true | _ => false)
  | u, .bl b => (match u with | .bool c => c == b | _ => false)
  | u, .int i => (match u with | .int j _ => decide (j = i) | _ => false)
  | u, .str s => (match u with | .str x _ => decide (x = strV s) | _ => false)
  | u, .tup ds => (match u with
    | .ref a => (match K.lookup a with
      | some ⟨.type c, _, .seq its _, _⟩ => decide (c = "tuple") && (decide (its.size ≤ sizeLine) && (decide (ds.length ≤ most) && conVs its.toList ds))
      | _ => false)
    | _ => false)
  | u, .lst ds => (match u with
    | .ref a => (match K.lookup a with
      | some ⟨.type c, none, .seq its _, _⟩ => decide (c = "list") && (decide (its.size ≤ sizeLine) && (decide (ds.length ≤ most) && conVs its.toList ds))
      | _ => false)
    | _ => false)
  | _, _ => false
def conVs : List Value → List D → Bool
  | [], [] => true
  | u :: us, d :: ds => conV u d && conVs us ds
  | _, _ => false
end
def eqV (a : Option (Option Value)) (u : Value) : Bool := decide (a = some (some u))
def clB (c : Nat) (cl : Cl) : Bool :=
  let C := (p.ln K).cad c
  PySem.W.plainGet K C Str.empty && (PySem.W.hasDictIn K C && (PySem.W.plainOver K C && (eqV (PySem.W.findIn K (.ref C) "__setattr__") (.builtin "object.__setattr__") && (PySem.W.keepIn K (.ref C) &&
    ((cl.meths.all fun m => eqV (PySem.W.findIn K (.ref C) (p.an m.1)) (.ref ((p.ln K).fad m.2)) && (PySem.W.isFn K (.ref ((p.ln K).fad m.2)) && PySem.W.keepIn K (.ref ((p.ln K).fad m.2)))) &&
    ((match cl.init with
      | some f => PySem.W.makesIn K C && (eqV (PySem.W.findIn K (.ref C) "__init__") (.ref ((p.ln K).fad f)) && PySem.W.isFn K (.ref ((p.ln K).fad f)))
      | none => true) &&
    (((List.range p.g.na).all fun k => !(mlook cl.meths k).isNone || decide (PySem.W.findIn K (.ref C) (p.an k) = some none)) &&
    ((bts.all fun T => decide (PySem.W.kitOne K (.type T) (.ref C) = some false)) &&
    (((List.range 6).all fun n => decide (PySem.W.kitOne K (.ref C) (.type (tyName n)) = some false)) &&
    (((List.range p.g.cls.length).all fun e => decide (PySem.W.kitOne K (.ref C) (.ref ((p.ln K).cad e)) = some (p.g.sub c e))) &&
    (eqV (PySem.W.findIn K (.ref C) "__class__") (.builtin "object.__class__") && decide (PySem.W.mroIn K C (.type "object") = some true))))))))))))
def clsB : Nat → List Cl → Bool
  | _, [] => true
  | i, cl :: r => clB p K i cl && clsB (i + 1) r
def oexB (C : Addr) : Bool := (match K.lookup C with
  | some ⟨.type t, _, .cls cd, sl⟩ => decide (t = "type") && ((match cd.mro with
    | .ref C' :: bm => decide (C' = C) && PySem.HandSPX.refsVE bm
    | _ => false) && (cd.hasDict && (!cd.hasDel && (match sl.toList with
    | [_, _, _, _, some (.builtin n), _] => decide (n = "ValueError.__new__")
    | _ => false))))
  | _ => false) && (eqV (PySem.W.findIn K (.ref C) "__setattr__") (.builtin "object.__setattr__") && (decide (PySem.W.subIn K (.ref C) (.type "BaseException") = some true) && (decide (PySem.W.typeIn K (.ref C) = some (.type "type")) && PySem.W.keepIn K (.ref C))))
def errInit : Addr := match errIn p.body with
  | q :: _ => He.fAd K q.at_
  | [] => 0
def dynB : Bool :=
  (p.globF.all fun q => eqV (PySem.W.nsIn K mainGlobals q.1) (.ref ((p.ln K).fad q.2))) && ((p.globC.all fun q => eqV (PySem.W.nsIn K mainGlobals q.1) (.ref ((p.ln K).cad q.2))) &&
  ((p.globD.all fun q => (match PySem.W.nsIn K mainGlobals q.1 with | some (some u) => conV K u q.2 | _ => false)) && ((p.free.all fun x => decide (PySem.W.nsIn K mainGlobals x = some none)) &&
  (clsB p K 0 p.g.cls && (eqV (PySem.W.specialIn K (.builtin "object.__class__") "__get__") (.builtin "getset_descriptor.__get__") && (decide (PySem.W.takesIn K (.builtin "object.__class__") = some true) &&
  ((p.errs.all fun c => oexB K ((p.ln K).cad c) && (decide (PySem.W.findIn K (.ref ((p.ln K).cad c)) "value" = some none) && (eqV (PySem.W.findIn K (.ref ((p.ln K).cad c)) "__init__") (.ref (errInit p K)) && decide (PySem.W.typeIn K (.ref (errInit p K)) = some (.type "function"))))) &&
  ((p.g.rfs.all fun hs => (List.range p.cn.length).all fun c => !(hs.any fun q => p.g.sub c q.1) || (xfB K ((p.ln K).cad c) && (decide (PySem.W.findIn K (.ref ((p.ln K).cad c)) "value" = some none) && hs.all fun q => decide (PySem.W.exmOne K (.ref ((p.ln K).cad c)) (.ref ((p.ln K).cad q.1)) = some (p.g.sub c q.1))))) &&
  (((refIn p.body).all fun q => eqV (PySem.W.nsIn K mainGlobals q.name) (.ref (He.fAd K q.at_))) &&
  decide (((p.ln K).T.map (·.1)).Nodup))))))))))
end
end Mi
end
section
set_option autoImplicit false
set_option Elab.async false
set_option linter.all false
set_option maxRecDepth 100000
set_option maxHeartbeats 3200000
/-! From the two Bools to all that the defs lean on. -/
namespace Mi
open PySem PySem.Spec PyProof.Rows L2
section
variable {p : Pg} {K : PySem.W.Frag} {P : Program} {w : World} {mg : Str → Option Value} {base : Heap} {fuel : Nat}
theorem eqV_ok {a : Option (Option Value)} {u : Value} (h : eqV a u = true) : a = some (some u) := of_decide_eq_true h
theorem KT_of {a : Addr} {c : String} {od : Option Addr} {its : Array Value} {n : Nat} {sl : Array (Option Value)} {xs : List V} (h : K.lookup a = some ⟨.type c, od, .seq its n, sl⟩) (hc : c = "tuple") (hs : its.size ≤ sizeLine) (hv : Vals xs its.toList) : KT K a xs := by
  subst hc
  exact ⟨_, its, n, h, rfl, rfl, hs, hv⟩
theorem KL_of {a : Addr} {c : String} {its : Array Value} {n : Nat} {sl : Array (Option Value)} {xs : List V} (h : K.lookup a = some ⟨.type c, none, .seq its n, sl⟩) (hc : c = "list") (hs : its.size ≤ sizeLine) (hv : Vals xs its.toList) : KL K a xs := by
  subst hc
  exact ⟨_, its, n, h, rfl, rfl, rfl, hs, hv⟩
mutual
theorem conV_ok {L : Ln} : ∀ {d : D} {u : Value}, conV K u d = true → ∃ v, RelV v u ∧ ∀ wd, RepV P w K L wd d v
  | .non, u, h => by
    cases u with
    | none => exact ⟨.non, rfl, fun _ => by rw [RepV]⟩
    | _ => simp [conV] at h
  | .bl b, u, h => by
    cases u with
    | bool c =>
      have e : c = b := by simpa [conV] using h
      subst e
      exact ⟨.bl c, rfl, fun _ => by rw [RepV]⟩
    | _ => simp [conV] at h
  | .int i, u, h => by
    cases u with
    | int j t =>
      have e : j = i := by simpa [conV] using h
      subst e
      exact ⟨.int j, ⟨t, rfl⟩, fun _ => by rw [RepV]⟩
    | _ => simp [conV] at h
  | .str s, u, h => by
    cases u with
    | str x t =>
      have e : x = strV s := by simpa [conV] using h
      subst e
      exact ⟨.str (strV s), ⟨t, rfl⟩, fun _ => by rw [RepV]⟩
    | _ => simp [conV] at h
  | .tup ds, u, h => by
    cases u with
    | ref a =>
      unfold conV at h
      dsimp only at h
      split at h
      · rename_i c od its n sl hk
        obtain ⟨h1, h⟩ := and2 h
        obtain ⟨h2, h⟩ := and2 h
        obtain ⟨h3, h4⟩ := and2 h
        obtain ⟨vs, rv, rr⟩ := conVs_ok (L := L) h4
        exact ⟨.ref a, rfl, fun wd => by
          rw [RepV]
          exact ⟨a, vs, rfl, .inr (KT_of hk (of_decide_eq_true h1) (of_decide_eq_true h2) rv), rr wd, of_decide_eq_true h3⟩⟩
      · cases h
    | _ => simp [conV] at h
  | .lst ds, u, h => by
    cases u with
    | ref a =>
      unfold conV at h
      dsimp only at h
      split at h
      · rename_i c its n sl hk
        obtain ⟨h1, h⟩ := and2 h
        obtain ⟨h2, h⟩ := and2 h
        obtain ⟨h3, h4⟩ := and2 h
        obtain ⟨vs, rv, rr⟩ := conVs_ok (L := L) h4
        exact ⟨.ref a, rfl, fun wd => by
          rw [RepV]
          exact ⟨a, vs, rfl, .inr (KL_of hk (of_decide_eq_true h1) (of_decide_eq_true h2) rv), rr wd, of_decide_eq_true h3⟩⟩
      · cases h
    | _ => simp [conV] at h
  | .dct _ _, u, h => by simp [conV] at h
  | .set _, u, h => by simp [conV] at h
  | .ref _, u, h => by simp [conV] at h
  | .fn _, u, h => by simp [conV] at h
  | .cls _, u, h => by simp [conV] at h
  | .ty _, u, h => by simp [conV] at h
theorem conVs_ok {L : Ln} : ∀ {ds : List D} {us : List Value}, conVs K us ds = true → ∃ vs, Vals vs us ∧ ∀ wd, RepVs P w K L wd ds vs
  | [], [], _ => ⟨[], .nil, fun _ => .nil⟩
  | [], _ :: _, h => by simp [conVs] at h
  | _ :: _, [], h => by simp [conVs] at h
  | d :: ds, u :: us, h => by
    unfold conVs at h
    obtain ⟨h1, h2⟩ := and2 h
    obtain ⟨v, r1, r2⟩ := conV_ok (L := L) h1
    obtain ⟨vs, s1, s2⟩ := conVs_ok (L := L) h2
    exact ⟨v :: vs, .cons r1 s1, fun wd => .cons (r2 wd) (s2 wd)⟩
end
theorem clsB_at : ∀ {i : Nat} {l : List Cl}, clsB p K i l = true → ∀ {j : Nat} {cl : Cl}, l[j]? = some cl → clB p K (i + j) cl = true
  | i, [], _, j, cl, e => by simp at e
  | i, c :: r, h, 0, cl, e => by
    cases e
    exact (and2 (show (clB p K i c && clsB p K (i + 1) r) = true from h)).1
  | i, c :: r, h, j + 1, cl, e => by
    have h2 := (and2 (show (clB p K i c && clsB p K (i + 1) r) = true from h)).2
    have := clsB_at h2 (j := j) (cl := cl) (by simpa using e)
    rw [show i + (j + 1) = i + 1 + j by omega]
    exact this
/-- what is known of a class -/
structure ClF (p : Pg) (K : PySem.W.Frag) (c : Nat) (cl : Cl) : Prop where
  cls : Cls K ((p.ln K).cad c)
  kp : PySem.W.keepIn K (.ref ((p.ln K).cad c)) = true
  meth : ∀ m ∈ cl.meths, Meth K ((p.ln K).cad c) (p.an m.1) ((p.ln K).fad m.2)
  init : ∀ f, cl.init = some f → Mk K ((p.ln K).cad c) ((p.ln K).fad f)
  noat : ∀ k, k < p.g.na → mlook cl.meths k = none → NoAttr K ((p.ln K).cad c) (p.an k)
  bt : ∀ T ∈ bts, PySem.W.kitOne K (.type T) (.ref ((p.ln K).cad c)) = some false
  tb : ∀ n, n ≤ 5 → PySem.W.kitOne K (.ref ((p.ln K).cad c)) (.type (tyName n)) = some false
  tt : ∀ e, e < p.g.cls.length → PySem.W.kitOne K (.ref ((p.ln K).cad c)) (.ref ((p.ln K).cad e)) = some (p.g.sub c e)
  kl : PySem.W.findIn K (.ref ((p.ln K).cad c)) "__class__" = some (some (.builtin "object.__class__"))
  mr : PySem.W.mroIn K ((p.ln K).cad c) (.type "object") = some true
theorem clB_ok {c : Nat} {cl : Cl} (h : clB p K c cl = true) : ClF p K c cl := by
  unfold clB at h
  obtain ⟨h1, h⟩ := and2 h
  obtain ⟨h2, h⟩ := and2 h
  obtain ⟨h3, h⟩ := and2 h
  obtain ⟨h4, h⟩ := and2 h
  obtain ⟨h5, h⟩ := and2 h
  obtain ⟨h6, h⟩ := and2 h
  obtain ⟨h7, h⟩ := and2 h
  obtain ⟨h8, h⟩ := and2 h
  obtain ⟨h9, h⟩ := and2 h
  obtain ⟨h10, h⟩ := and2 h
  obtain ⟨h11, h⟩ := and2 h
  obtain ⟨h12, h13⟩ := and2 h
  refine ⟨⟨h1, h2, h3, eqV_ok h4⟩, h5, fun m hm => ?_, fun f hf => ?_, fun k hk hn => ?_, fun T hT => of_decide_eq_true (all_mem h9 T hT), fun n hn => of_decide_eq_true (all_mem h10 n (List.mem_range.mpr (by omega))), fun e he => of_decide_eq_true (all_mem h11 e (List.mem_range.mpr he)), eqV_ok h12, of_decide_eq_true h13⟩
  · obtain ⟨a1, a2⟩ := and2 (all_mem h6 m hm)
    obtain ⟨a2, a3⟩ := and2 a2
    exact ⟨eqV_ok a1, a2, a3⟩
  · rw [hf] at h7
    obtain ⟨a1, a2⟩ := and2 h7
    obtain ⟨a2, a3⟩ := and2 a2
    exact ⟨a1, eqV_ok a2, a3, h5⟩
  · rcases or2 (all_mem h8 k (List.mem_range.mpr hk)) with z | z
    · rw [hn] at z
      cases z
    · exact (show PySem.W.findIn K (.ref ((p.ln K).cad c)) (p.an k) = some none from of_decide_eq_true z)
theorem mlook_mem : ∀ {l : List (Nat × Nat)} {m f : Nat}, mlook l m = some f → (m, f) ∈ l
  | [], _, _, h => by cases h
  | (k, d) :: r, m, f, h => by
    unfold mlook at h
    by_cases q : k = m
    · rw [if_pos q] at h
      cases h
      rw [q]
      exact List.mem_cons_self
    · rw [if_neg q] at h
      exact List.mem_cons_of_mem _ (mlook_mem h)
theorem oexB_ok {C : Addr} (h : oexB K C = true) : OexC K C := by
  unfold oexB at h
  obtain ⟨h1, h⟩ := and2 h
  obtain ⟨h2, h⟩ := and2 h
  obtain ⟨h3, h⟩ := and2 h
  obtain ⟨h4, h5⟩ := and2 h
  refine ⟨?_, eqV_ok h2, of_decide_eq_true h3, of_decide_eq_true h4, h5⟩
  split at h1
  · rename_i t dd cd sl hk
    obtain ⟨a1, x1⟩ := and2 h1
    obtain ⟨a2, x2⟩ := and2 x1
    obtain ⟨a3, x3⟩ := and2 x2
    obtain ⟨a4, a5⟩ := and2 x3
    clear x1 x2 x3
    replace a1 := of_decide_eq_true a1
    subst a1
    obtain ⟨nm, bs, mro, ns, qn, hd, sn, sub, ab, col, del⟩ := cd
    dsimp only at a2 a3 a4
    replace a4 := ntr a4
    subst a3 a4
    split at a2
    · rename_i C' bm
      obtain ⟨b1, b2⟩ := and2 a2
      have b1 := of_decide_eq_true b1
      subst b1
      split at a5
      · rename_i k0 k1 k2 k3 n k5 hs
        have a5 := of_decide_eq_true a5
        subst a5
        obtain ⟨l⟩ := sl
        have hs : l = [k0, k1, k2, k3, some (.builtin "ValueError.__new__"), k5] := hs
        subst hs
        exact ⟨nm, qn, ns, bs, bm, sn, sub, ab, col, dd, k0, k1, k2, k3, k5, hk, b2⟩
      · cases a5
    · cases a2
  · cases h1
theorem an_inj (nd : p.attrs.Nodup) (ha : p.attrs.all attrB = true) : ∀ i j, p.an i = p.an j → i = j := by
  have far : ∀ {i j : Nat} {s : Str}, p.attrs[i]? = some s → s ≠ (⟨(List.replicate (j + 1) 1).toArray⟩ : Str) := fun {i j s} h e => by
    have := all_mem ha s (List.mem_of_getElem? h)
    rw [e] at this
    simp [attrB, List.replicate_succ] at this
  intro i j e
  unfold Pg.an at e
  cases h1 : p.attrs[i]? with
  | some s =>
    cases h2 : p.attrs[j]? with
    | some t =>
      rw [h1, h2] at e
      have e : s = t := e
      subst e
      have l1 := (List.getElem?_eq_some_iff.mp h1).1
      exact (List.getElem?_inj l1 nd).mp (h1.trans h2.symm)
    | none =>
      rw [h1, h2] at e
      exact (far h1 e).elim
  | none =>
    cases h2 : p.attrs[j]? with
    | some t =>
      rw [h1, h2] at e
      exact (far h2 e.symm).elim
    | none =>
      rw [h1, h2] at e
      have e1 : (List.replicate (i + 1) 1).toArray = (List.replicate (j + 1) 1).toArray := congrArg Str.cps e
      have e2 := congrArg Array.size e1
      simp at e2
      exact e2
end
end Mi
end
section
set_option autoImplicit false
set_option Elab.async false
set_option linter.all false
set_option maxRecDepth 100000
set_option maxHeartbeats 3200000
/-! `_law_refused`, the errors' __init__. -/
namespace Mi
open PySem PySem.Spec PyProof.Rows L2
section
variable {p : Pg} {K : PySem.W.Frag} {P : Program} {w : World} {mg : Str → Option Value} {base : Heap} {fuel : Nat} {T : Tab} {L : Ln}
theorem hds_ok (glob : ∀ x g, T.glob.lookup x = some g → GOk P w K mg L x g) {n : Str} {sc : Scope} {X : Cx} (hX : X.mg = mg) : ∀ {hds : List ExceptHandler} {hs : List (Nat × List Nat)}, hdsB T n sc hds hs = true → Hds X n sc hds (hlOf L hs) := by
  intro hds
  induction hds with
  | nil =>
    intro hs h
    cases hs with
    | nil => exact .nil
    | cons a r => simp [hdsB] at h
  | cons hd r ih =>
    intro hs h
    unfold hdsB at h
    split at h
    · rename_i e
      cases e
    · rename_i x px m z j pz m2 pm f pf k pt pr pp r' c ws hs' e1
      obtain ⟨h1, h⟩ := and2 h
      obtain ⟨h2, h⟩ := and2 h
      obtain ⟨h3, h⟩ := and2 h
      obtain ⟨h4, h⟩ := and2 h
      obtain ⟨h5, h⟩ := and2 h
      obtain ⟨h6, h7⟩ := and2 h
      replace h1 := of_decide_eq_true h1
      replace h2 := of_decide_eq_true h2
      replace h3 := of_decide_eq_true h3
      replace h4 := of_decide_eq_true h4
      subst h1 h2 h3 h4
      obtain ⟨g1, g2⟩ := and2 h5
      have gm := glob x _ (of_decide_eq_true h6)
      injection e1 with e1 e3
      subst e1 e3
      exact .cons (of_decide_eq_true g1) (ntr g2) (by rw [hX]; exact gm) (ih h7)
    · cases h
theorem rf_ok {q : DefQ} {hs : List (Nat × List Nat)} (h : rfB T q hs = true) (glob : ∀ x g, T.glob.lookup x = some g → GOk P w K mg L x g) (F : ∃ fd, FunD K q.name q.qual q.args q.body q.sc [] [] (He.fAd K q.at_) fd) (hm : mg q.name = some (.ref (He.fAd K q.at_))) : Nonempty (RfK K mg L hs) := by
  obtain ⟨cls, name, args, body, sc⟩ := q
  unfold rfB at h
  dsimp only at h F hm
  split at h
  · rename_i a x p1 p2 p3 h0 hds p4 z j p5 k1 p6 p7 p8
    obtain ⟨h1, h⟩ := and2 h
    obtain ⟨h2, h⟩ := and2 h
    obtain ⟨h3, h⟩ := and2 h
    obtain ⟨h4, h⟩ := and2 h
    obtain ⟨h5, h⟩ := and2 h
    obtain ⟨h6, h⟩ := and2 h
    obtain ⟨h7, h⟩ := and2 h
    obtain ⟨h8, h⟩ := and2 h
    obtain ⟨h9, h10⟩ := and2 h
    replace h1 := of_decide_eq_true h1
    replace h2 := of_decide_eq_true h2
    replace h3 := of_decide_eq_true h3
    replace h4 := of_decide_eq_true h4
    subst h1 h2 h3 h4
    obtain ⟨fd, F⟩ := F
    have bd : L2.Binds K fd [a.arg] [] := F.bindsN fun kV doc pm an cdv ct us hl => bind_plain (args := [a]) (by simp) hl
    have kp := F.kp
    obtain ⟨oc, od, dV, kV, doc, pm, an, cdv, ct, osl, rfl, lk, hcd, _, _⟩ := F.ex
    exact ⟨{
      ga := He.fAd K (DefQ.at_ ⟨none, "_law_refused", ⟨[], [a], none, [], [], none, []⟩, _, sc⟩)
      pg := _
      sg := sc
      Ng := [a.arg, hdName h0]
      a := a.arg
      n := hdName h0
      i := 1
      h0 := h0
      hds := hds
      hm := hm
      hk := kp
      lk := lk
      hcg := hcd
      hb := bd
      Sg := scopeB_ok h5
      hNg := rfl
      hva := vis_of h6
      ha := h7
      hn := h8
      hni := rfl
      hnl := of_decide_eq_true h9
      hh := fun X hX => hds_ok glob hX h10 }⟩
  · cases h
theorem err_ok {q : DefQ} {C fI : Addr} (h : errB q = true) (F : ∃ fd, FunD K q.name q.qual q.args q.body q.sc [.non] [] fI fd) : ∃ (fd : FuncData) (ps : List Str), FnOk P w K mg base (L2.CX P w) 1 fI fd ps (spErr K C) ∧ L2.Binds K fd ps [] := by
  obtain ⟨cls, name, args, body, sc⟩ := q
  unfold errB at h
  dsimp only at h F
  split at h
  · rename_i s v j pj s2 p1 f p2 v2 p3 p4
    obtain ⟨h1, h⟩ := and2 h
    obtain ⟨h2, h⟩ := and2 h
    obtain ⟨h3, h⟩ := and2 h
    obtain ⟨h4, h⟩ := and2 h
    obtain ⟨h5, h6⟩ := and2 h
    obtain ⟨sa, sn, sp⟩ := s
    obtain ⟨va, vn, vp⟩ := v
    replace h1 : sa = ("self" : Str) := of_decide_eq_true h1
    replace h2 : va = ("value" : Str) := of_decide_eq_true h2
    replace h3 := of_decide_eq_true h3
    replace h4 := of_decide_eq_true h4
    replace h5 := of_decide_eq_true h5
    subst h1 h2 h3 h4 h5
    have S := scopeB_ok h6
    obtain ⟨fd, F⟩ := F
    refine ⟨fd, ["self", "value"], F.ok S (fun vs H Q E ⟨a, v, e, _⟩ => by rw [e]; rfl) (fun cdv A outer s H vs Q E hr hsp => ?_), ?_⟩
    · obtain ⟨a, y, rfl, T, hno, hH, hQ⟩ := hsp
      have vis : ∀ x ∈ [("self" : Str), "value"], Vis sc x := fun x hx => (S.par x hx).elim (fun z => .inl z) fun z => .inr (.inl z)
      refine ⟨_, pss_one (ps_ost (pe_var (i := 0) rfl (vis _ (by simp)) (by decide +kernel) (by decide +kernel)) (pe_var (i := 1) rfl (vis _ (by simp)) (by decide +kernel) (by decide +kernel)) rfl), ?_⟩
      exact ⟨y, rfl, .ref a, rfl, a, C, rfl, T, hno, .inl ⟨hH, hQ⟩⟩
    · obtain ⟨ds, hv, hb⟩ := F.binds1 (ps := ["self", "value"]) 2 1 (by simp) rfl fun T kV doc pm an cdv ct us its h1 h2 => match us, its, h1, h2 with
        | [_, _], [_], _, _ => ⟨_, rfl, rfl⟩
      have : ds = [] := by
        cases hv
        rfl
      rw [this] at hb
      exact hb
  · cases h
end
end Mi
end
section
set_option autoImplicit false
set_option Elab.async false
set_option linter.all false
set_option maxRecDepth 100000
set_option maxHeartbeats 3200000
/-! All joined: the law's promise from the head's facts and the pure law. -/
namespace Mi
open PySem PySem.Spec PyProof.Rows L2
/-- the text's Bool, part by part -/
structure Stat (p : Pg) (fuel : Nat) : Prop where
  defs : defsB p fuel 0 p.defs p.slots p.g.fns = true
  nd : p.attrs.Nodup
  at_ : p.attrs.all attrB = true
  na : p.g.na = p.attrs.length
  rpm : ∀ (c : Nat) (cl : Cl), p.g.cls[c]? = some cl → (∀ m ∈ cl.meths, p.rp.getD m.2 false = false) ∧ ∀ f, cl.init = some f → p.rp.getD f false = false
  subs : ∀ q ∈ p.subs, q.1 < p.cn.length
  cl : p.g.cls.length ≤ p.cn.length
  rf : ∀ hs, p.g.rfs[0]? = some hs → ∃ q, refIn p.body = [q] ∧ rfB p.tab q hs = true
  er : (∃ q, errIn p.body = [q] ∧ errB q = true) ∨ p.errs = []
theorem stat_of {p : Pg} {fuel : Nat} (h : statB p fuel = true) : Stat p fuel := by
  unfold statB at h
  obtain ⟨h1, h⟩ := and2 h
  obtain ⟨h2, h⟩ := and2 h
  obtain ⟨h3, h⟩ := and2 h
  obtain ⟨h4, h⟩ := and2 h
  obtain ⟨h5, h⟩ := and2 h
  obtain ⟨h6, h⟩ := and2 h
  obtain ⟨h7, h⟩ := and2 h
  obtain ⟨h8, h⟩ := and2 h
  obtain ⟨h9, h10⟩ := and2 h
  refine ⟨h1, of_decide_eq_true h2, h3, of_decide_eq_true h4, fun c cl e => ?_, fun q hq => of_decide_eq_true (all_mem h6 q hq), of_decide_eq_true h7, fun hs e => ?_, ?_⟩
  · obtain ⟨a1, a2⟩ := and2 (all_mem h5 cl (List.mem_of_getElem? e))
    refine ⟨fun m hm => ntr (all_mem a1 m hm), fun f hf => ?_⟩
    rw [hf] at a2
    exact ntr a2
  · split at h9
    · rename_i q hs' e1 e2
      rw [e2] at e
      cases e
      exact ⟨q, e1, h9⟩
    · rename_i e1 e2
      rw [e2] at e
      cases e
    · cases h9
  · split at h10
    · rename_i q e1
      exact .inl ⟨q, e1, h10⟩
    · exact .inr (List.isEmpty_iff.mp h10)
    · cases h10
section
variable {p : Pg} {K : PySem.W.Frag} {P : Program} {w : World} {mg : Str → Option Value} {base h : Heap} {fuel : Nat}
theorem fun_of (c : He.SaysD [] p.fnD K) {q : DefQ} (hq : q ∈ p.defs ∨ q ∈ refIn p.body) : ∃ fd, FunD K q.name q.qual q.args q.body q.sc [] [] (He.fAd K q.at_) fd := by
  refine He.SaysD.defs (d := q.d []) c ?_
  unfold Pg.fnD
  rcases hq with z | z
  · exact List.mem_append.mpr (.inl (List.mem_map.mpr ⟨q, z, rfl⟩))
  · exact List.mem_append.mpr (.inr (List.mem_append.mpr (.inl (List.mem_map.mpr ⟨q, z, rfl⟩))))
theorem funE_of (c : He.SaysD [] p.fnD K) {q : DefQ} (hq : q ∈ errIn p.body) : ∃ fd, FunD K q.name q.qual q.args q.body q.sc [.non] [] (He.fAd K q.at_) fd := by
  refine He.SaysD.defs (d := q.d [.non]) c ?_
  unfold Pg.fnD
  exact List.mem_append.mpr (.inr (List.mem_append.mpr (.inr (List.mem_map.mpr ⟨q, hq, rfl⟩))))
theorem glob_of (KX : K.In h) (G : h.Ns mainGlobals mg) (h1 : (p.globF.all fun q => eqV (PySem.W.nsIn K mainGlobals q.1) (.ref ((p.ln K).fad q.2))) = true) (h2 : (p.globC.all fun q => eqV (PySem.W.nsIn K mainGlobals q.1) (.ref ((p.ln K).cad q.2))) = true)
    (h3 : (p.globD.all fun q => (match PySem.W.nsIn K mainGlobals q.1 with | some (some u) => conV K u q.2 | _ => false)) = true) : ∀ x g, p.tab.glob.lookup x = some g → GOk P w K mg (p.ln K) x g := by
  intro x g e
  have m := PySem.mem_of_lookup e
  rcases List.mem_append.mp m with m | m
  · obtain ⟨q, hq, eq⟩ := List.mem_map.mp m
    cases eq
    exact PySem.W.mg_of KX G (eqV_ok (all_mem h1 q hq))
  · rcases List.mem_append.mp m with m | m
    · obtain ⟨q, hq, eq⟩ := List.mem_map.mp m
      cases eq
      exact PySem.W.mg_of KX G (eqV_ok (all_mem h2 q hq))
    · obtain ⟨q, hq, eq⟩ := List.mem_map.mp m
      cases eq
      have z := all_mem h3 q hq
      split at z
      · rename_i u hu
        obtain ⟨v, r1, r2⟩ := conV_ok (L := p.ln K) z
        exact ⟨u, v, PySem.W.mg_of KX G hu, r1, r2⟩
      · cases z
theorem knwS_of (st : Stat p fuel) (hsub : p.g.sub = fun a b => p.subs.contains (a, b)) (hrep : p.g.rep = repD) (KX : K.In h) (G : h.Ns mainGlobals mg) (c : He.SaysD [] p.fnD K) (dy : dynB p K = true) : Nonempty (KnwS P w K mg base (p.ln K) p.tab) := by
  unfold dynB at dy
  obtain ⟨h1, dy⟩ := and2 dy
  obtain ⟨h2, dy⟩ := and2 dy
  obtain ⟨h3, dy⟩ := and2 dy
  obtain ⟨h4, dy⟩ := and2 dy
  obtain ⟨h5, dy⟩ := and2 dy
  obtain ⟨h6, dy⟩ := and2 dy
  obtain ⟨h7, dy⟩ := and2 dy
  obtain ⟨h8, dy⟩ := and2 dy
  obtain ⟨h9, dy⟩ := and2 dy
  obtain ⟨h10, h11⟩ := and2 dy
  have gl := glob_of (P := P) (w := w) KX G h1 h2 h3
  have cf : ∀ c cl, p.g.cls[c]? = some cl → ClF p K c cl := fun c cl e => clB_ok (by
    have := clsB_at h5 e
    rw [Nat.zero_add] at this
    exact this)
  have cf' : ∀ c, c < p.g.cls.length → ∃ cl, ClF p K c cl := fun c hc => ⟨_, cf c _ (List.getElem?_eq_getElem hc)⟩
  have er : ∀ c, p.tab.errs.contains c = true → ErrK P w K mg base ((p.ln K).cad c) := fun ci hc => by
    have hc : p.errs.contains ci = true := hc
    have hm : ci ∈ p.errs := by simpa using hc
    obtain ⟨a1, a⟩ := and2 (all_mem h8 ci hm)
    obtain ⟨a2, a⟩ := and2 a
    obtain ⟨a3, a4⟩ := and2 a
    rcases st.er with ⟨q, e1, e2⟩ | e
    · obtain ⟨fd, ps, f1, f2⟩ := err_ok (P := P) (w := w) (mg := mg) (base := base) (C := (p.ln K).cad ci) e2 (funE_of c (by rw [e1]; exact List.mem_singleton_self q))
      have ei : errInit p K = He.fAd K q.at_ := by unfold errInit; rw [e1]
      rw [ei] at a3 a4
      exact ⟨oexB_ok a1, of_decide_eq_true a2, _, fd, ps, eqV_ok a3, of_decide_eq_true a4, f1, f2⟩
    · rw [e] at hm
      cases hm
  have rfn : ∀ hs, (p.ln K).g.rfs[0]? = some hs → Nonempty (RfK K mg (p.ln K) hs) := fun hs e => by
    obtain ⟨q, e1, e2⟩ := st.rf hs e
    have hq : q ∈ refIn p.body := by rw [e1]; exact List.mem_singleton_self q
    exact rf_ok e2 gl (fun_of c (.inr hq)) (PySem.W.mg_of KX G (eqV_ok (all_mem h10 q hq)))
  exact ⟨{
    gT := rfl
    cls := fun c hc => by obtain ⟨cl, F⟩ := cf' c hc; exact F.cls
    keepc := fun c hc => by obtain ⟨cl, F⟩ := cf' c hc; exact F.kp
    meth := fun c cl m f e1 e2 => (cf c cl e1).meth _ (mlook_mem e2)
    init := fun c cl f e1 e2 => (cf c cl e1).init f e2
    noat := fun c k hn => by
      unfold noMeth at hn
      split at hn
      · rename_i cl e1
        obtain ⟨n1, n2⟩ := and2 hn
        exact (cf c cl e1).noat k (of_decide_eq_true n1) (Option.isNone_iff_eq_none.mp n2)
      · cases hn
    inj := an_inj st.nd st.at_
    mrp := fun c cl m f e1 e2 => (st.rpm c cl e1).1 _ (mlook_mem e2)
    irp := fun c cl f e1 e2 => (st.rpm c cl e1).2 f e2
    rps := rfl
    isi := {
      bt := fun T hT c hc => by obtain ⟨cl, F⟩ := cf' c hc; exact F.bt T hT
      tb := fun k hk n hn => by obtain ⟨cl, F⟩ := cf' k hk; exact F.tb n hn
      tt := fun k hk c hc => by obtain ⟨cl, F⟩ := cf' k hk; exact F.tt c hc
      own := fun k hk => by obtain ⟨cl, F⟩ := cf' k hk; exact ⟨F.cls, F.kl, F.mr⟩
      gs := eqV_ok h6
      tk := of_decide_eq_true h7 }
    glob := gl
    free := fun x hx => PySem.W.mg_none_of KX G (of_decide_eq_true (all_mem h4 x (by
      have hx : p.free.contains x = true := hx
      simpa using hx)))
    an := fun i s e => by
      show p.an i = s
      unfold Pg.an
      rw [show p.attrs[i]? = some s from e]
    rep := hrep
    err := er
    rfo := fun hs e => ⟨fun c hc => by
      obtain ⟨q, hq, hs1⟩ := hc
      have hs1' : p.g.sub c q.1 = true := hs1
      have lt : c < p.cn.length := by
        rw [hsub] at hs1'
        have : (c, q.1) ∈ p.subs := by simpa using hs1'
        exact st.subs _ this
      have z := all_mem (all_mem h9 hs (List.mem_of_getElem? e)) c (List.mem_range.mpr lt)
      rcases or2 z with z | z
      · have : (hs.any fun q => p.g.sub c q.1) = true := List.any_eq_true.mpr ⟨q, hq, hs1⟩
        rw [this] at z
        cases z
      · obtain ⟨z1, z2⟩ := and2 z
        obtain ⟨z2, z3⟩ := and2 z2
        exact ⟨xfB_ok z1, of_decide_eq_true z2, fun q hq => of_decide_eq_true (all_mem z3 q hq)⟩⟩
    rf := fun hs e => Classical.choice (rfn hs e) }⟩
theorem tabs_uni (h11 : ((p.ln K).T.map (·.1)).Nodup) {a : Addr} {x : Str} (hm : (a, x) ∈ (p.ln K).T) : ∀ q ∈ (p.ln K).T, q.1 = a → q.2 = x := by
  generalize (p.ln K).T = l at *
  induction l with
  | nil => cases hm
  | cons b r ih =>
    rw [List.map_cons] at h11
    obtain ⟨n1, n2⟩ := List.nodup_cons.mp h11
    intro q hq e
    rcases List.mem_cons.mp hq with z | z
    · rcases List.mem_cons.mp hm with y | y
      · rw [z, ← y]
      · exfalso
        apply n1
        rw [← z, e]
        exact List.mem_map.mpr ⟨_, y, rfl⟩
    · rcases List.mem_cons.mp hm with y | y
      · exfalso
        apply n1
        rw [← y]
        exact List.mem_map.mpr ⟨q, z, e⟩
      · exact ih n2 y q z e
/-- a def, with the very function object -/
theorem defK_of (st : Stat p fuel) (hd : ((p.ln K).T.map (·.1)).Nodup) {fi : Nat} {fn : Fn} (hf : p.g.fns[fi]? = some fn) (c : He.SaysD [] p.fnD K) :
    ∃ (q : DefQ) (ps : List Str) (fd : FuncData), p.defs[fi]? = some q ∧ plainPs q.args = some ps ∧ fn.np = ps.length ∧ FunD K q.name q.qual q.args q.body q.sc [] [] (He.fAd K q.at_) fd ∧ (∀ (s : Shared) (us : List Value), us.length = ps.length → BindsTo s fd ⟨us, []⟩ (ps.zip us)) ∧
      ∀ base : Heap, (∀ t ∈ p.tf.map (He.cT K), LamX.TabB base mg t.1 t.2) → ∃ D : DefK K mg base (p.ln K) p.tab fuel fi fn, D.fd = fd ∧ D.ps = ps := by
  obtain ⟨q, sl, e1, e2, e3⟩ := defsB_at st.defs hf
  rw [Nat.zero_add] at e3
  unfold defB at e3
  split at e3
  · rename_i ps hps
    obtain ⟨a1, a⟩ := and2 e3
    obtain ⟨a2, a⟩ := and2 a
    obtain ⟨a3, a⟩ := and2 a
    obtain ⟨a4, a5⟩ := and2 a
    replace a1 := of_decide_eq_true a1
    replace a3 := of_decide_eq_true a3
    replace a4 := of_decide_eq_true a4
    obtain ⟨fd, F⟩ := fun_of c (.inl (List.mem_of_getElem? e1))
    have hpl : ∀ (kV doc pm : Value) (an : Option Addr) (cdv ct : Value) (us : List Value), us.length = ps.length → bindArgs (PySem.W.fnOf q.name q.qual q.args q.body q.sc .none kV doc pm an cdv ct) ⟨us, []⟩ = pure (ps.zip us) := fun kV doc pm an cdv ct us hl => by
      unfold plainPs at hps
      split at hps
      · rename_i as ha
        cases hps
        rw [ha]
        exact bind_plain a1 hl
      · cases hps
    have bA : ∀ (s : Shared) (us : List Value), us.length = ps.length → BindsTo s fd ⟨us, []⟩ (ps.zip us) := fun s us hl => F.bindsA hpl s us hl
    have bN : L2.Binds K fd ps [] := F.bindsN hpl
    refine ⟨q, ps, fd, e1, hps, a3, F, bA, fun base tabs => ?_⟩
    have kp := F.kp
    obtain ⟨oc, od, dV, kV, doc, pm, an, cdv, ct, osl, rfl, lk, hcd, _, _⟩ := F.ex
    have dq : p.def_ fi = q := by
      unfold Pg.def_
      rw [List.getD_eq_getElem?_getD, e1]
      rfl
    have fa : (p.ln K).fad fi = He.fAd K q.at_ := by
      show He.fAd K (p.def_ fi).at_ = _
      rw [dq]
    refine ⟨{
      name := q.name, qual := q.qual, params := q.args, body := q.body, sc := q.sc, N := sl, ps := ps
      dV := dV, kV := kV, doc := doc, pm := pm, cdv := cdv, ct := ct, oc := oc, an := an, od := od, osl := osl
      lam := p.lams.contains fi
      lk := by rw [fa]; exact lk
      hcd := hcd
      S := scopeB_ok a2
      hnp := a3
      hns := a4
      kp := by rw [fa]; exact kp
      bd := bN
      hm := a5
      hl := fun hlam => by
        have hmem : fi ∈ p.lams := by simpa using hlam
        obtain ⟨cc, ec⟩ := He.codeIn_ref hcd
        subst ec
        have ce : He.codeOf K q.at_ = cc := He.codeOf_eq lk rfl
        have tb := tabs (He.cT K q.at_) (List.mem_map.mpr ⟨q.at_, List.mem_map.mpr ⟨fi, hmem, by rw [dq]⟩, rfl⟩)
        have ct : He.cT K q.at_ = (cc, (He.cT K q.at_).2) := by
          unfold He.cT
          rw [ce]
        have mT : ((He.cT K q.at_).2, lamQ q.qual) ∈ (p.ln K).T := List.mem_map.mpr ⟨fi, hmem, by rw [dq]⟩
        rw [ct] at tb
        exact ⟨cc, _, rfl, tb, mT, tabs_uni hd mT⟩ }, rfl, rfl⟩
  · cases e3
/-- the law's promise -/
theorem law_ready (st : Stat p fuel) (hsub : p.g.sub = fun a b => p.subs.contains (a, b)) (hrep : p.g.rep = repD) (KX : K.In h) (G : h.Ns mainGlobals mg) (c : He.SaysD [] p.fnD K) (dy : dynB p K = true) {fi : Nat} {fn : Fn} (hf : p.g.fns[fi]? = some fn) (n : Nat) :
    ∃ (q : DefQ) (ps : List Str) (fd : FuncData), p.defs[fi]? = some q ∧ plainPs q.args = some ps ∧ fn.np = ps.length ∧ (∀ (s : Shared) (us : List Value), us.length = ps.length → BindsTo s fd ⟨us, []⟩ (ps.zip us)) ∧
      ∀ base : Heap, (∀ t ∈ p.tf.map (He.cT K), LamX.TabB base mg t.1 t.2) → FnG P w K mg base (4 * n + 4) (p.rp.getD fi false) (He.fAd K q.at_) fd ps (spD P w K (p.ln K) fn.np (callD p.g (n + 1)) fi) := by
  have hd : ((p.ln K).T.map (·.1)).Nodup := by
    have dy2 := dy
    unfold dynB at dy2
    exact of_decide_eq_true (and2 (and2 (and2 (and2 (and2 (and2 (and2 (and2 (and2 (and2 dy2).2).2).2).2).2).2).2).2).2).2
  obtain ⟨q, ps, fd, e1, e2, e3, F, bA, hD⟩ := defK_of (mg := mg) st hd hf c
  refine ⟨q, ps, fd, e1, e2, e3, bA, fun base tabs => ?_⟩
  obtain ⟨S⟩ := knwS_of (P := P) (w := w) (base := base) st hsub hrep KX G c dy
  have all : ∀ fi fn, (p.ln K).g.fns[fi]? = some fn → Nonempty (DefK K mg base (p.ln K) p.tab fuel fi fn) := fun fi fn hf => by
    obtain ⟨_, _, _, _, _, _, _, _, hD⟩ := defK_of (mg := mg) st hd hf c
    obtain ⟨D, _⟩ := hD base tabs
    exact ⟨D⟩
  have Q := level S (fun fi fn hf => Classical.choice (all fi fn hf)) n
  obtain ⟨D, d1, d2⟩ := hD base tabs
  have := def_up Q hf D rfl
  rw [d1, d2] at this
  have dq : p.def_ fi = q := by
    unfold Pg.def_
    rw [List.getD_eq_getElem?_getD, e1]
    rfl
  have fa : (p.ln K).fad fi = He.fAd K q.at_ := by
    show He.fAd K (p.def_ fi).at_ = _
    rw [dq]
  rw [fa] at this
  exact this
end
/-- the pure law -/
def Pure (p : Pg) (n fi most : Nat) : Prop := ∀ ns : List Int, ns.length ≤ most → (∀ z ∈ ns, Builtin.Int.intBits z ≤ 1048576) → ∃ h, callD p.g (n + 1) fi [.lst (ns.map .int)] [] = .ok (.bl true) h
theorem rep_ints' {P : Program} {w : World} {K : PySem.W.Frag} {L : Ln} {wd : Wd} : ∀ ns : List Int, RepVs P w K L wd (ns.map D.int) (ns.map V.int) := reps_of_ints
theorem law_walk {l : PySem.W.OpenLaw} {p : Pg} {fuel n fi m : Nat} {fn : Fn} {q0 : Program} {loose : List Str} {XP : (Str → Option Value) → Heap → Prop} {d : DefRec} {x : Str} {dq : DefQ}
    (most : l.most = some m) (small : m ≤ Mi.most) (nodf : d.params.defaults = []) (room : Room (4 * n + 4) callerA)
    (st : statB p fuel = true) (hsub : p.g.sub = fun a b => p.subs.contains (a, b)) (hrep : p.g.rep = repD) (hf : p.g.fns[fi]? = some fn) (hq : p.defs[fi]? = some dq) (hps : plainPs dq.args = some [x]) (hgl : (d.name, fi) ∈ p.globF) (np : fn.np = 1) (law : Pure p n fi m) :
    PySem.W.WalkO q0 loose XP (He.hookX 6 [] p.fnD [] p.tf (dynB p)).says l.row.toRowW d [] (fun f vs => PySem.call f vs) := by
  refine walk_ofG (x := x) (rp := p.rp.getD fi false) most (Nat.le_trans small (by rw [sizeLine_eq]; unfold Mi.most; omega)) nodf room fun w mg fa h Y G hmg => ?_
  obtain ⟨K, KX, S⟩ := Y
  obtain ⟨q, ps, fd, e1, e2, e3, bA, hF⟩ := law_ready (P := l.prog) (w := w) (stat_of st) hsub hrep KX G S.t.d S.more hf n
  have eq : q = dq := Option.some.inj (e1.symm.trans hq)
  subst eq
  have ep : ps = [x] := Option.some.inj (e2.symm.trans hps)
  subst ep
  have dqe : p.def_ fi = q := by
    unfold Pg.def_
    rw [List.getD_eq_getElem?_getD, e1]
    rfl
  have efa : fa = He.fAd K q.at_ := by
    have dy2 := S.more
    unfold dynB at dy2
    have := PySem.W.mg_of KX G (eqV_ok (all_mem (and2 dy2).1 _ hgl))
    rw [hmg] at this
    have : fa = (p.ln K).fad fi := by simpa using this
    rw [this]
    show He.fAd K (p.def_ fi).at_ = _
    rw [dqe]
  subst efa
  refine ⟨K, fd, p.tf.map (He.cT K), spD l.prog w K (p.ln K) fn.np (callD p.g (n + 1)) fi, KX, fun t ht => ?_, fun t ht => ?_, fun t ht => ?_, fun s u => bA s [u] rfl, fun H a ns hl hb hT hS => ?_, fun base _ _ tabs => hF base tabs⟩
  · obtain ⟨z, hz, rfl⟩ := List.mem_map.mp ht
    exact S.empty z hz
  · obtain ⟨z, hz, rfl⟩ := List.mem_map.mp ht
    exact S.out z hz
  · obtain ⟨z, hz, rfl⟩ := List.mem_map.mp ht
    exact PySem.W.codeHd_of_K KX (S.hd z hz)
  · obtain ⟨h', hcall⟩ := law ns hl hb
    have fz : ∀ x, (x = a ∧ Rd H a (.lst (ns.map V.int))) → Nt (H x) := fun x ⟨e, r⟩ => by
      subst e
      rcases r with r | ⟨o, r⟩
      · exact ⟨_, r, fun _ z => nomatch z⟩
      · exact ⟨_, r, fun _ z => nomatch z⟩
    let wd : Wd := { H := H, Fz := fun x => x = a ∧ Rd H a (.lst (ns.map V.int)), ρ := fun _ => 0, z := 0, T := (p.ln K).T }
    refine ⟨[.lst (ns.map .int)], [], wd, rfl, ⟨fun x hx => ⟨fz x hx, fun n hn => absurd hn (Nat.not_lt_zero _)⟩, fun n hn => absurd hn (Nat.not_lt_zero _), fun m n hm => absurd hm (Nat.not_lt_zero _), fun t ht => ?_⟩, rfl, ⟨rfl, fun n o e => by simp at e⟩, .cons ?_ .nil, by rw [np]; rfl, ?_⟩
    · obtain ⟨z, hz, rfl⟩ := List.mem_map.mp ht
      exact LamX.TabS.nil (hT (He.cT K (p.def_ z).at_) (List.mem_map.mpr ⟨_, List.mem_map.mpr ⟨z, hz, rfl⟩, rfl⟩))
    · rw [RepV]
      refine ⟨a, ns.map V.int, rfl, ?_, rep_ints' ns, by rw [List.length_map]; exact Nat.le_trans hl small⟩
      rcases hS with r | r
      · exact .inl ⟨⟨rfl, r⟩, r⟩
      · exact .inr r
    · rw [hcall]
      intro v wd' _ _ _ r
      have r : RepV _ _ _ _ wd' (.bl true) v := r
      rw [RepV] at r
      exact r
end Mi
end
section
set_option autoImplicit false
set_option linter.unusedVariables false
/-! Pure facts of the mini interpreter. -/
namespace Mi
theorem call_eq {g : G} {n f : Nat} {fn : Fn} {xs : List D} {h : AH} (hf : g.fns[f]? = some fn) (hl : xs.length = fn.np) : callD g (n + 1) f xs h = endFl (evSs g (callD g n) fn.body (startEnv fn.ns xs) h) := by
  rw [callD, hf]
  simp [hl]
@[simp] theorem bind_ok {α β : Type} (a : α) (h : AH) (f : α → AH → R β) : (R.ok a h).bind f = f a h := rfl
@[simp] theorem bind_exc {α β : Type} (c : Nat) (d : D) (h : AH) (f : α → AH → R β) : (R.exc c d h).bind f = .exc c d h := rfl
@[simp] theorem bind_fail {α β : Type} (f : α → AH → R β) : (R.fail : R α).bind f = .fail := rfl
@[simp] theorem ofO_some {α : Type} (a : α) (h : AH) : ofO (some a) h = .ok a h := rfl
@[simp] theorem truD_bl (b : Bool) (h : AH) : truD (.bl b) h = some b := rfl
@[simp] theorem unD_not_bl (b : Bool) (h : AH) : unD .not (.bl b) h = some (.bl (!b)) := rfl
@[simp] theorem unD_neg (b : Int) (h : AH) : unD .neg (.int b) h = some (.int (-b)) := rfl
@[simp] theorem refOf_tup (xs : List D) : refOf (.tup xs) = none := rfl
@[simp] theorem refOf_lst (xs : List D) : refOf (.lst xs) = none := rfl
@[simp] theorem refOf_dct (xs ys : List D) : refOf (.dct xs ys) = none := rfl
@[simp] theorem refOf_ref (k : Nat) : refOf (.ref k) = some k := rfl
@[simp] theorem same_none (h h' : AH) : same none h h' = true := rfl
@[simp] theorem optI_none : optI none = some none := rfl
@[simp] theorem optI_someP (i : Int) : optI (some (.int i)) = some (some i) := rfl
@[simp] theorem asS_int (i : Int) (h : AH) : asS (.int i) h = none := rfl
@[simp] theorem asD_dct (ks vs : List D) (h : AH) : asD (.dct ks vs) h = some (ks, vs) := rfl
@[simp] theorem asD_tup (xs : List D) (h : AH) : asD (.tup xs) h = none := rfl
@[simp] theorem asD_lst (xs : List D) (h : AH) : asD (.lst xs) h = none := rfl
@[simp] theorem asD_int (i : Int) (h : AH) : asD (.int i) h = none := rfl
@[simp] theorem binD_add (a b : Int) : binD .add (.int a) (.int b) = some (.int (a + b)) := rfl
@[simp] theorem binD_sub (a b : Int) : binD .sub (.int a) (.int b) = some (.int (a - b)) := rfl
theorem filterMap_map {α β : Type} (f : α → β) (xs : List α) : List.filterMap (fun x => some (f x)) xs = xs.map f := by
  induction xs with
  | nil => rfl
  | cons x xs ih => rw [List.filterMap_cons, ih]; rfl
theorem compL_pure {g : AH → Bool} {step : D → AH → R (Option D)} {f : D → Option D} {h : AH} (hg : g h = true) : ∀ {xs : List D}, (∀ x ∈ xs, step x h = .ok (f x) h) → compL g step xs h = .ok (xs.filterMap f) h
  | [], _ => rfl
  | x :: xs, hs => by
    rw [compL, hs x List.mem_cons_self]
    simp only [hg, if_true]
    rw [compL_pure hg fun y hy => hs y (List.mem_cons_of_mem _ hy)]
    rw [List.filterMap_cons]
    cases f x <;> rfl
theorem compL_map {g : AH → Bool} {step : D → AH → R (Option D)} {α : Type} {mk : α → D} {f : α → Option D} {h : AH} (hg : g h = true) : ∀ {l : List α}, (∀ a ∈ l, step (mk a) h = .ok (f a) h) → compL g step (l.map mk) h = .ok (l.filterMap f) h
  | [], _ => rfl
  | x :: xs, hs => by
    rw [List.map_cons, compL, hs x List.mem_cons_self]
    simp only [hg, if_true]
    rw [compL_map hg fun y hy => hs y (List.mem_cons_of_mem _ hy)]
    rw [List.filterMap_cons]
    cases f x <;> rfl
theorem zip_int (xs ys : List Int) : List.map (fun (p : D × D) => D.tup [p.1, p.2]) ((xs.map D.int).zip (ys.map D.int)) = (xs.zip ys).map fun p => D.tup [.int p.1, .int p.2] := by
  rw [List.zip_map, List.map_map]
  rfl
/-- a comprehension, item by item -/
theorem compL_rel {g : AH → Bool} {step : D → AH → R (Option D)} (I : List D → List D → AH → Prop) (hs : ∀ x rest acc h, I (x :: rest) acc h → ∃ o h', step x h = .ok o h' ∧ g h' = true ∧ I rest (acc ++ o.toList) h') :
    ∀ {xs acc : List D} {h : AH}, I xs acc h → ∃ r h', compL g step xs h = .ok r h' ∧ I [] (acc ++ r) h'
  | [], acc, h, i => ⟨[], h, rfl, by simpa using i⟩
  | x :: xs, acc, h, i => by
    obtain ⟨o, h', e, e2, i'⟩ := hs x xs acc h i
    obtain ⟨r, h2, e3, i2⟩ := compL_rel I hs i'
    rw [compL, e]
    simp only [e2, if_true, e3]
    cases o with
    | none => exact ⟨r, h2, rfl, by simpa using i2⟩
    | some d => exact ⟨d :: r, h2, rfl, by simpa using i2⟩
/-- a loop that goes through -/
theorem forL_rel {g : AH → Bool} {step : D → MEnv → AH → R Fl} (I : List D → MEnv → AH → Prop) (hs : ∀ x rest en h, I (x :: rest) en h → ∃ en' h', step x en h = .ok (.nx en') h' ∧ g h' = true ∧ I rest en' h') :
    ∀ {xs : List D} {en : MEnv} {h : AH}, I xs en h → ∃ en' h', forL g step xs en h = .ok (.nx en') h' ∧ I [] en' h'
  | [], en, h, i => ⟨en, h, rfl, i⟩
  | x :: xs, en, h, i => by
    obtain ⟨en', h', e, e2, i'⟩ := hs x xs en h i
    obtain ⟨en2, h2, e3, i2⟩ := forL_rel I hs i'
    refine ⟨en2, h2, ?_, i2⟩
    rw [forL, e]
    simp only [e2, if_true, e3]
/-! steps -/
theorem ss_nx {g : G} {call : CallT} {s : S} {ss : Ss} {en en' : MEnv} {h h' : AH} (e : evS g call s en h = .ok (.nx en') h') : evSs g call (.cons s ss) en h = evSs g call ss en' h' := by
  rw [evSs, e]
theorem ss_rt {g : G} {call : CallT} {s : S} {ss : Ss} {en : MEnv} {h h' : AH} {d : D} (e : evS g call s en h = .ok (.rt d) h') : evSs g call (.cons s ss) en h = .ok (.rt d) h' := by
  rw [evSs, e]
theorem ss_exc {g : G} {call : CallT} {s : S} {ss : Ss} {en : MEnv} {h h' : AH} {c : Nat} {d : D} (e : evS g call s en h = .exc c d h') : evSs g call (.cons s ss) en h = .exc c d h' := by
  rw [evSs, e]
theorem call_rt {g : G} {n f : Nat} {fn : Fn} {xs : List D} {h h' : AH} {d : D} (hf : g.fns[f]? = some fn) (hl : xs.length = fn.np) (e : evSs g (callD g n) fn.body (startEnv fn.ns xs) h = .ok (.rt d) h') : callD g (n + 1) f xs h = .ok d h' := by
  rw [call_eq hf hl, e]
  rfl
theorem call_nx {g : G} {n f : Nat} {fn : Fn} {xs : List D} {h h' : AH} {en : MEnv} (hf : g.fns[f]? = some fn) (hl : xs.length = fn.np) (e : evSs g (callD g n) fn.body (startEnv fn.ns xs) h = .ok (.nx en) h') : callD g (n + 1) f xs h = .ok .non h' := by
  rw [call_eq hf hl, e]
  rfl
theorem call_exc {g : G} {n f : Nat} {fn : Fn} {xs : List D} {h h' : AH} {c : Nat} {d : D} (hf : g.fns[f]? = some fn) (hl : xs.length = fn.np) (e : evSs g (callD g n) fn.body (startEnv fn.ns xs) h = .exc c d h') : callD g (n + 1) f xs h = .exc c d h' := by
  rw [call_eq hf hl, e]
  rfl
def forStep (g : G) (call : CallT) (t : T) (b : Ss) : D → MEnv → AH → R Fl := fun x en h => match bindT t x en with
  | some en' => evSs g call b en' h
  | none => .fail
theorem for_eq {g : G} {call : CallT} {t : T} {i : I} {b : Ss} {en : MEnv} {h h' : AH} {xs : List D × Option Nat} (ho : ownI i en = false) (e : evI g call i en h = .ok xs h') : evS g call (.for t i b) en h = forL (same xs.2 h') (forStep g call t b) xs.1 en h' := by
  rw [evS, ho, e]
  rfl
def lcStep (g : G) (call : CallT) (own : List Nat) (t : T) (cond : Option B) (e : E) (en : MEnv) : D → AH → R (Option D) := fun x h => match bindT t x (wipe en own) with
  | some en' => (evOB g call cond en' h).bind fun c h => match c with
    | true => if isOwn e en' then .fail else (evE g call e en' h).bind fun d h => .ok (some d) h
    | false => .ok none h
  | none => .fail
theorem lc_eq {g : G} {call : CallT} {own : List Nat} {t : T} {i : I} {cond : Option B} {ee : E} {en : MEnv} {h h' : AH} {xs : List D × Option Nat} (e : evI g call i en h = .ok xs h') :
    evF g call (.lc own t i cond ee) en h = (compL (same xs.2 h') (lcStep g call own t cond ee en) xs.1 h').bind fun r h => .ok (.lst r) h := by
  rw [evF, e]
  rfl
/-- a loop over made items -/
theorem forL_map {g : AH → Bool} {step : D → MEnv → AH → R Fl} {α : Type} (mk : α → D) (I : List α → MEnv → AH → Prop) (hs : ∀ a rest en h, I (a :: rest) en h → ∃ en' h', step (mk a) en h = .ok (.nx en') h' ∧ g h' = true ∧ I rest en' h') :
    ∀ {l : List α} {en : MEnv} {h : AH}, I l en h → ∃ en' h', forL g step (l.map mk) en h = .ok (.nx en') h' ∧ I [] en' h'
  | [], en, h, i => ⟨en, h, rfl, i⟩
  | x :: xs, en, h, i => by
    obtain ⟨en', h', e, e2, i'⟩ := hs x xs en h i
    obtain ⟨en2, h2, e3, i2⟩ := forL_map mk I hs i'
    refine ⟨en2, h2, ?_, i2⟩
    rw [List.map_cons, forL, e]
    simp only [e2, if_true, e3]
theorem enum_map {α : Type} (mk : α → D) (l : List α) : (((l.map mk).zipIdx).map fun p => D.tup [.int p.2, p.1]) = l.zipIdx.map fun p => D.tup [.int p.2, mk p.1] := by
  rw [List.zipIdx_map, List.map_map]
  rfl
@[simp] theorem cmpable_int (i : Int) : (D.int i).cmpable = true := by simp [D.cmpable, D.plain, D.depth]
@[simp] theorem cmpable_bl (i : Bool) : (D.bl i).cmpable = true := by simp [D.cmpable, D.plain, D.depth]
@[simp] theorem cmpable_non : D.non.cmpable = true := by simp [D.cmpable, D.plain, D.depth]
@[simp] theorem asS_tup (xs : List D) (h : AH) : asS (.tup xs) h = some xs := rfl
@[simp] theorem asS_lst (xs : List D) (h : AH) : asS (.lst xs) h = some xs := rfl
@[simp] theorem asL_lst (xs : List D) (h : AH) : asL (.lst xs) h = some xs := rfl
@[simp] theorem allI_mapP (xs : List Int) : allI (xs.map .int) = some xs := by
  induction xs with
  | nil => rfl
  | cons x xs ih => simp [allI, ih]
@[simp] theorem allB_mapP (xs : List Bool) : allB (xs.map .bl) = some xs := by
  induction xs with
  | nil => rfl
  | cons x xs ih => simp [allB, ih]
theorem plains_int (xs : List Int) : D.plains (xs.map .int) = true := by
  induction xs with
  | nil => rfl
  | cons x xs ih => simp [D.plains, D.plain, ih]
theorem depths_int (xs : List Int) : D.depths (xs.map .int) = 0 := by
  induction xs with
  | nil => rfl
  | cons x xs ih => simp [D.depths, D.depth, ih]
@[simp] theorem cmpable_lstI (xs : List Int) : (D.lst (xs.map .int)).cmpable = true := by simp [D.cmpable, D.plain, D.depth, plains_int, depths_int]
@[simp] theorem cmpable_tupI (xs : List Int) : (D.tup (xs.map .int)).cmpable = true := by simp [D.cmpable, D.plain, D.depth, plains_int, depths_int]
theorem eqvs_int (xs ys : List Int) : D.eqvs (xs.map .int) (ys.map .int) = decide (xs = ys) := by
  induction xs generalizing ys with
  | nil => cases ys <;> simp [D.eqvs]
  | cons x xs ih =>
    cases ys with
    | nil => simp [D.eqvs]
    | cons y ys =>
      simp only [List.map_cons, D.eqvs, D.eqv, ih]
      by_cases h : x = y <;> simp [h]
@[simp] theorem cmp_eq_int (a b : Int) (h : AH) : cmpD .eq (.int a) (.int b) h = some (.bl (decide (a = b))) := by
  simp [cmpD, D.eqv]
  by_cases e : a = b <;> simp [e]
@[simp] theorem cmp_ne_int (a b : Int) (h : AH) : cmpD .ne (.int a) (.int b) h = some (.bl (!decide (a = b))) := by
  simp [cmpD, D.eqv]
  by_cases e : a = b <;> simp [e]
@[simp] theorem cmp_lt_int (a b : Int) (h : AH) : cmpD .lt (.int a) (.int b) h = some (.bl (decide (a < b))) := by simp [cmpD, D.ord, D.rc, rcI]
@[simp] theorem cmp_le_int (a b : Int) (h : AH) : cmpD .le (.int a) (.int b) h = some (.bl (decide (a ≤ b))) := by simp [cmpD, D.ord, D.rc, rcI]
@[simp] theorem cmp_gt_int (a b : Int) (h : AH) : cmpD .gt (.int a) (.int b) h = some (.bl (decide (b < a))) := by simp [cmpD, D.ord, D.rc, rcI]
@[simp] theorem cmp_ge_int (a b : Int) (h : AH) : cmpD .ge (.int a) (.int b) h = some (.bl (decide (b ≤ a))) := by simp [cmpD, D.ord, D.rc, rcI]
@[simp] theorem cmp_ne_bl (a b : Bool) (h : AH) : cmpD .ne (.bl a) (.bl b) h = some (.bl (a != b)) := by
  simp [cmpD, D.eqv]
  cases a <;> cases b <;> rfl
@[simp] theorem cmp_eq_bl (a b : Bool) (h : AH) : cmpD .eq (.bl a) (.bl b) h = some (.bl (a == b)) := by
  simp [cmpD, D.eqv]
theorem biAll (g : G) {α : Type} (p : α → Bool) (xs : List α) (h : AH) : biD g .all [.lst (xs.map fun x => .bl (p x))] h = some (.bl (xs.all p)) := by
  have : (xs.map fun x => D.bl (p x)) = (xs.map p).map .bl := by simp
  simp only [biD, asL_lst, this, Option.bind_some, allB_mapP, Option.map_some]
  simp [List.all_map, Function.comp_def]
@[simp] theorem bi_len_tup (g : G) (xs : List D) (h : AH) : biD g .len [.tup xs] h = some (.int xs.length) := rfl
@[simp] theorem bi_len_lst (g : G) (xs : List D) (h : AH) : biD g .len [.lst xs] h = some (.int xs.length) := rfl
@[simp] theorem bi_tuple_lst (g : G) (xs : List D) (h : AH) : biD g .tuple [.lst xs] h = some (.tup xs) := rfl
@[simp] theorem bi_tuple_tup (g : G) (xs : List D) (h : AH) : biD g .tuple [.tup xs] h = some (.tup xs) := rfl
@[simp] theorem bi_int_int (g : G) (i : Int) (h : AH) : biD g .int [.int i] h = some (.int i) := rfl
@[simp] theorem slD_tup (xs : List D) (l r : Option Int) (h : AH) : slD (.tup xs) (l.map .int) (r.map .int) h = some (.tup (cut xs l r)) := by
  cases l <;> cases r <;> rfl
theorem cut1 {α : Type} (xs : List α) : cut xs (some 1) none = xs.tail := by
  unfold cut bound
  simp only [show ¬ (1 : Int) < 0 by omega, if_false]
  cases xs with
  | nil => rfl
  | cons x xs => simp
theorem cutTo {α : Type} (xs : List α) (k : Nat) (hk : k ≤ xs.length) : cut xs none (some (k : Int)) = xs.take k := by
  unfold cut bound
  simp only [show ¬ (k : Int) < 0 by omega, if_false]
  simp [Nat.min_eq_left hk]
theorem place_nat (n k : Nat) : place n (k : Int) = if k < n then some k else none := by
  unfold place
  simp
@[simp] theorem ix_tup_nat (xs : List D) (k : Nat) (h : AH) : ixD (.tup xs) (.int (k : Int)) h = xs[k]? := by
  simp only [ixD, asD_tup, asS_tup, place_nat]
  by_cases e : k < xs.length
  · simp [e]
  · simp [e]
@[simp] theorem ix_lst_nat (xs : List D) (k : Nat) (h : AH) : ixD (.lst xs) (.int (k : Int)) h = xs[k]? := by
  simp only [ixD, asD_lst, asS_lst, place_nat]
  by_cases e : k < xs.length
  · simp [e]
  · simp [e]
@[simp] theorem ix_tup_0 (xs : List D) (h : AH) : ixD (.tup xs) (.int 0) h = xs[0]? := ix_tup_nat xs 0 h
@[simp] theorem ix_tup_1 (xs : List D) (h : AH) : ixD (.tup xs) (.int 1) h = xs[1]? := ix_tup_nat xs 1 h
theorem ix_lst_int (xs : List D) (i : Int) (hi : 0 ≤ i) (h : AH) : ixD (.lst xs) (.int i) h = xs[i.toNat]? := by
  have := ix_lst_nat xs i.toNat h
  rw [Int.toNat_of_nonneg hi] at this
  exact this
theorem ix_tup_int (xs : List D) (i : Int) (hi : 0 ≤ i) (h : AH) : ixD (.tup xs) (.int i) h = xs[i.toNat]? := by
  have := ix_tup_nat xs i.toNat h
  rw [Int.toNat_of_nonneg hi] at this
  exact this
/-! sorting -/
theorem insI_perm (x : Int) : ∀ xs, (insI x xs).Perm (x :: xs)
  | [] => .refl _
  | y :: ys => by
    rw [insI]
    split
    · exact .refl _
    · exact ((insI_perm x ys).cons y).trans (List.Perm.swap x y ys)
theorem sortI_perm' : ∀ xs : List Int, (sortI xs).Perm xs
  | [] => .refl _
  | x :: xs => (insI_perm x (sortI xs)).trans ((sortI_perm' xs).cons x)
theorem insI_srt (x : Int) : ∀ xs : List Int, xs.Pairwise (· ≤ ·) → (insI x xs).Pairwise (· ≤ ·)
  | [], _ => by simp [insI]
  | y :: ys, h => by
    rw [insI]
    rw [List.pairwise_cons] at h
    split
    · rename_i hx
      rw [List.pairwise_cons, List.pairwise_cons]
      refine ⟨fun z hz => ?_, h⟩
      rcases List.mem_cons.mp hz with e | e
      · omega
      · have := h.1 z e; omega
    · rename_i hx
      rw [List.pairwise_cons]
      refine ⟨fun z hz => ?_, insI_srt x ys h.2⟩
      rcases List.mem_cons.mp ((insI_perm x ys).mem_iff.mp hz) with e | e
      · omega
      · exact h.1 z e
theorem sortI_srt' : ∀ xs : List Int, (sortI xs).Pairwise (· ≤ ·)
  | [] => .nil
  | x :: xs => insI_srt x _ (sortI_srt' xs)
theorem sortI_congr {xs ys : List Int} (h : xs.Perm ys) : sortI xs = sortI ys :=
  List.Perm.eq_of_pairwise (fun a b _ _ h1 h2 => by omega) (sortI_srt' xs) (sortI_srt' ys) ((sortI_perm' xs).trans (h.trans (sortI_perm' ys).symm))
theorem mem_dedup (xs : List Int) (k : Int) : k ∈ dedupI xs ↔ k ∈ xs := by
  induction xs with
  | nil => simp [dedupI]
  | cons x xs ih =>
    rw [dedupI]
    split
    · rename_i h
      rw [ih, List.mem_cons]
      constructor
      · exact .inr
      · rintro (rfl | h2)
        · exact ih.mp h
        · exact h2
    · rw [List.mem_cons, List.mem_cons, ih]
theorem dedup_nodup : ∀ xs : List Int, (dedupI xs).Nodup
  | [] => List.nodup_nil
  | x :: xs => by
    rw [dedupI]
    split
    · exact dedup_nodup xs
    · rename_i h
      exact List.nodup_cons.mpr ⟨h, dedup_nodup xs⟩
theorem perm_of_mem {xs ys : List Int} (h1 : xs.Nodup) (h2 : ys.Nodup) (h : ∀ k, k ∈ xs ↔ k ∈ ys) : xs.Perm ys := (List.perm_ext_iff_of_nodup h1 h2).mpr h
theorem sort_dedup_nodup (xs : List Int) : (sortI (dedupI xs)).Nodup := (sortI_perm' _).nodup_iff.mpr (dedup_nodup xs)
theorem mem_sort_dedup (xs : List Int) (k : Int) : k ∈ sortI (dedupI xs) ↔ k ∈ xs := by rw [(sortI_perm' _).mem_iff, mem_dedup]
end Mi
end
section
set_option autoImplicit false
set_option linter.all false
/-! Small data, whose repr is short. -/
namespace Mi
mutual
def tinyD (wordsL : List (List Nat)) : D → Bool
  | .int i => decide (i.natAbs ≤ 1000)
  | .str s => wordsL.contains s
  | .tup xs | .lst xs => tinyDs wordsL xs
  | _ => true
def tinyDs (wordsL : List (List Nat)) : List D → Bool
  | [] => true
  | x :: xs => tinyD wordsL x && tinyDs wordsL xs
end
mutual
def costD : D → Nat
  | .tup xs | .lst xs => costDs xs + 4
  | _ => 16
def costDs : List D → Nat
  | [] => 0
  | x :: xs => costD x + 2 + costDs xs
end
structure RepOk (rep : D → List Nat) (wordsL : List (List Nat)) : Prop where
  len : ∀ d, tinyD wordsL d = true → costD d ≤ 100000 → (rep d).length ≤ most
  chr : ∀ d, tinyD wordsL d = true → ((rep d).all fun c => decide (c < 1114112)) = true
theorem tinyDs_all (wordsL : List (List Nat)) : ∀ xs : List D, tinyDs wordsL xs = xs.all (tinyD wordsL)
  | [] => rfl
  | x :: xs => by rw [tinyDs, tinyDs_all wordsL xs]; rfl
theorem costDs_le {b : Nat} : ∀ {xs : List D}, (∀ x ∈ xs, costD x ≤ b) → costDs xs ≤ xs.length * (b + 2)
  | [], _ => by simp [costDs]
  | x :: xs, h => by
    have h1 := h x List.mem_cons_self
    have h2 := costDs_le (xs := xs) fun y hy => h y (List.mem_cons_of_mem _ hy)
    rw [costDs, List.length_cons, Nat.succ_mul]
    omega
end Mi
end
section
set_option Elab.async false
set_option linter.all false
set_option maxRecDepth 100000
/-! The repr of small data is short. -/
namespace Mi
open PySem
structure Fine (b : Nat) (s : Str) : Prop where
  len : s.cps.toList.length ≤ b
  chr : ∀ c ∈ s.cps.toList, c < 1114112
theorem app_cps (a b : Str) : (a ++ b).cps.toList = a.cps.toList ++ b.cps.toList := by
  show (a.cps ++ b.cps).toList = _
  simp
theorem Fine.app {a b : Str} {m n k : Nat} (x : Fine m a) (y : Fine n b) (e : m + n ≤ k) : Fine k (a ++ b) := by
  refine ⟨?_, fun c hc => ?_⟩
  · rw [app_cps, List.length_append]
    have := x.len
    have := y.len
    omega
  · rw [app_cps] at hc
    rcases List.mem_append.mp hc with z | z
    · exact x.chr c z
    · exact y.chr c z
theorem Fine.mono {a : Str} {m k : Nat} (x : Fine m a) (e : m ≤ k) : Fine k a := ⟨Nat.le_trans x.len e, x.chr⟩
def fineB (b : Nat) (s : Str) : Bool := decide (s.cps.toList.length ≤ b) && s.cps.toList.all fun c => decide (c < 1114112)
theorem fine_of {b : Nat} {s : Str} (h : fineB b s = true) : Fine b s := by
  unfold fineB at h
  rw [Bool.and_eq_true] at h
  exact ⟨of_decide_eq_true h.1, fun c hc => of_decide_eq_true (List.all_eq_true.mp h.2 c hc)⟩
theorem intsOk : ((List.range 2001).all fun k => fineB 16 ((toString ((k : Int) - 1000) : String) : Str)) = true := by decide +kernel
theorem fine_int {i : Int} (h : i.natAbs ≤ 1000) : Fine 16 ((toString i : String) : Str) := by
  have := List.all_eq_true.mp intsOk (i + 1000).toNat (List.mem_range.mpr (by omega))
  have e : (((i + 1000).toNat : Nat) : Int) - 1000 = i := by omega
  rw [e] at this
  exact fine_of this
mutual
theorem fine_shown {wordsL : List (List Nat)} (hs : ∀ s ∈ wordsL, Fine 16 (reprText (strV s))) : ∀ d : D, tinyD wordsL d = true → Fine (costD d) (pdS d).shown
  | .non, _ => fine_of (by decide +kernel)
  | .bl b, _ => by
    cases b
    · exact fine_of (by decide +kernel)
    · exact fine_of (by decide +kernel)
  | .int i, h => by
    rw [tinyD] at h
    have h := of_decide_eq_true h
    simp only [pdS, costD]
    exact fine_int h
  | .str s, h => by
    rw [tinyD] at h
    simp only [pdS, costD]
    exact hs s (by simpa using h)
  | .tup xs, h => by
    rw [tinyD] at h
    simp only [pdS, costD, PyData.shown, tupleText]
    obtain ⟨j, _⟩ := fine_all hs xs h
    refine Fine.app (m := costDs xs + 1) (n := 2) (Fine.app (m := 1) (n := costDs xs) (fine_of (by decide +kernel)) j (by omega)) ?_ (by omega)
    split
    · exact fine_of (by decide +kernel)
    · exact fine_of (by decide +kernel)
  | .lst xs, h => by
    rw [tinyD] at h
    simp only [pdS, costD, PyData.shown, listText]
    obtain ⟨_, j⟩ := fine_all hs xs h
    exact Fine.app (m := costDs xs + 1) (n := 1) (j 0 _ 1 (fine_of (by decide +kernel))) (fine_of (by decide +kernel)) (by omega)
  | .dct _ _, _ => by simp only [pdS, costD]; exact fine_of (by decide +kernel)
  | .set _, _ => by simp only [pdS, costD]; exact fine_of (by decide +kernel)
  | .ref _, _ => by simp only [pdS, costD]; exact fine_of (by decide +kernel)
  | .fn _, _ => by simp only [pdS, costD]; exact fine_of (by decide +kernel)
  | .cls _, _ => by simp only [pdS, costD]; exact fine_of (by decide +kernel)
  | .ty _, _ => by simp only [pdS, costD]; exact fine_of (by decide +kernel)
theorem fine_all {wordsL : List (List Nat)} (hs : ∀ s ∈ wordsL, Fine 16 (reprText (strV s))) : ∀ xs : List D, tinyDs wordsL xs = true → Fine (costDs xs) (Str.join ", " (PyData.shownAll (pdSs xs))) ∧ ∀ (k : Nat) (acc : Str) (m : Nat), Fine m acc → Fine (costDs xs + m) (textFrom k acc (PyData.shownAll (pdSs xs)))
  | [], _ => ⟨fine_of (by decide +kernel), fun k acc m x => by simp only [pdSs, PyData.shownAll, textFrom, costDs]; exact x.mono (by omega)⟩
  | x :: xs, h => by
    rw [tinyDs, Bool.and_eq_true] at h
    have h1 := fine_shown hs x h.1
    obtain ⟨h2, h3⟩ := fine_all hs xs h.2
    simp only [pdSs, PyData.shownAll, costDs]
    refine ⟨?_, fun k acc m a => ?_⟩
    · cases e : PyData.shownAll (pdSs xs) with
      | nil => exact h1.mono (by omega)
      | cons y ys =>
        rw [e] at h2
        exact Fine.app (m := costD x + 2) (n := costDs xs) (Fine.app (m := costD x) (n := 2) h1 (fine_of (by decide +kernel)) (by omega)) h2 (by omega)
    · rw [textFrom]
      refine (h3 (k + 1) _ (m + 2 + costD x) ?_).mono (by omega)
      refine Fine.app (m := m + 2) (n := costD x) (Fine.app (m := m) (n := 2) a ?_ (by omega)) h1 (by omega)
      split
      · exact fine_of (by decide +kernel)
      · exact fine_of (by decide +kernel)
end
theorem repOk {wordsL : List (List Nat)} (hs : (wordsL.all fun s => fineB 16 (reprText (strV s))) = true) : RepOk repD wordsL := by
  have h : ∀ s ∈ wordsL, Fine 16 (reprText (strV s)) := fun s m => fine_of (List.all_eq_true.mp hs s m)
  refine ⟨fun d t c => ?_, fun d t => ?_⟩
  · have := (fine_shown h d t).len
    unfold repD most
    omega
  · exact List.all_eq_true.mpr fun c m => decide_eq_true ((fine_shown h d t).chr c m)
example : RepOk repD [[119, 101, 98], [115, 116, 97, 110, 100, 105, 110, 103], [111, 114, 100, 101, 114], [48]] := repOk (by decide +kernel)
end Mi
end
section
set_option autoImplicit false
set_option maxRecDepth 100000
set_option linter.unusedVariables false
namespace P
open Mi
def c_MOST_COINS : D := (.int 9)
def c_MOST_STRINGS : D := (.int 12)
def c_GROUND : D := (.int (-1))
/-- is_integer(thing) -/
def b_is_integer : Ss := (.cons (.ret (.and (.isi (.v 0) [.ty 0]) (.un .not (.isi (.v 0) [.ty 1])))) .nil)
def d_is_integer : Fn := ⟨1, 1, b_is_integer⟩
/-- is_within(thing, least, most) -/
def b_is_within : Ss := (.cons (.ret (.and (.call 0 (.cons (.v 0) .nil)) (.chn .le .le (.v 1) (.v 0) (.v 2)))) .nil)
def d_is_within : Fn := ⟨3, 3, b_is_within⟩
/-- is_row(thing) -/
def b_is_row : Ss := (.cons (.ret (.isi (.v 0) [.ty 4, .ty 3])) .nil)
def d_is_row : Fn := ⟨1, 1, b_is_row⟩
/-- is_rising(thing, least, most, one, other) -/
def b_is_rising : Ss := (.cons (.iff (.or (.not (.e (.isi (.v 0) [.ty 3]))) (.not (.e (.bi .all (.cons (.fr (.lc [3] (.v 3) (.e (.v 0)) none (.call 1 (.cons (.v 3) (.cons (.v 1) (.cons (.v 2) .nil)))))) .nil))))) (.cons (.ret (.c (.bl false))) .nil) .nil) (.cons (.ret (.bi .all (.cons (.fr (.lc [3, 4] (.t [(.v 3), (.v 4)]) (.zip (.v 0) (.sl (.v 0) (some (.c (.int 1))) none)) none (.cmp .lt (.v 3) (.v 4)))) .nil))) .nil))
def d_is_rising : Fn := ⟨3, 5, b_is_rising⟩
/-- is_order(thing, some, one) -/
def b_is_order : Ss := (.cons (.iff (.or (.not (.e (.isi (.v 0) [.ty 3]))) (.not (.e (.bi .all (.cons (.fr (.lc [2] (.v 2) (.e (.v 0)) none (.call 0 (.cons (.v 2) .nil)))) .nil))))) (.cons (.ret (.c (.bl false))) .nil) .nil) (.cons (.ret (.cmp .eq (.fr (.srt (.v 0))) (.fr (.srt (.v 1))))) .nil))
def d_is_order : Fn := ⟨2, 3, b_is_order⟩
/-- is_string(thing, coins) -/
def b_is_string : Ss := (.cons (.iff (.or (.not (.e (.isi (.v 0) [.ty 3]))) (.or (.e (.cmp .ne (.bi .len (.cons (.v 0) .nil)) (.c (.int 2)))) (.not (.e (.call 1 (.cons (.ix (.v 0) (.c (.int 0))) (.cons (.c (.int 0)) (.cons (.bin .sub (.v 1) (.c (.int 1))) .nil)))))))) (.cons (.ret (.c (.bl false))) .nil) .nil) (.cons (.ret (.or (.call 1 (.cons (.ix (.v 0) (.c (.int 1))) (.cons (.bin .add (.ix (.v 0) (.c (.int 0))) (.c (.int 1))) (.cons (.bin .sub (.v 1) (.c (.int 1))) .nil)))) (.call 1 (.cons (.ix (.v 0) (.c (.int 1))) (.cons (.g 0 c_GROUND) (.cons (.g 0 c_GROUND) .nil)))))) .nil))
def d_is_string : Fn := ⟨2, 2, b_is_string⟩
/-- Web.__init__(self, coins, strings, index, one) -/
def l_Web___init___0 : Ss := (.cons (.iff (.not (.e (.call 5 (.cons (.v 4) (.cons (.v 1) .nil))))) (.cons (.raise 3 (.v 3)) .nil) .nil) .nil)
def b_Web___init__ : Ss := (.cons (.iff (.not (.e (.call 1 (.cons (.v 1) (.cons (.c (.int 1)) (.cons (.g 1 c_MOST_COINS) .nil)))))) (.cons (.raise 2 (.v 1)) .nil) .nil) (.cons (.iff (.or (.not (.e (.call 2 (.cons (.v 2) .nil)))) (.e (.cmp .gt (.bi .len (.cons (.v 2) .nil)) (.g 2 c_MOST_STRINGS)))) (.cons (.raise 3 (.un .neg (.c (.int 1)))) .nil) .nil) (.cons (.for (.t [(.v 3), (.v 4)]) (.enum (.v 2)) l_Web___init___0) (.cons (.fld (.v 0) 0 (.v 1)) (.cons (.fld (.v 0) 1 (.bi .tuple (.cons (.v 2) .nil))) (.cons (.fld (.v 0) 2 (.fr (.dct .nil .nil))) .nil))))))
def d_Web___init__ : Fn := ⟨3, 5, b_Web___init__⟩
/-- Web.coins_at(self, string, coin) -/
def b_Web_coins_at : Ss := (.cons (.ret (.fr (.lc [2] (.v 2) (.e (.ix (.fld (.v 0) 1) (.v 1))) (some (.e (.cmp .ne (.v 2) (.g 0 c_GROUND)))) (.v 2)))) .nil)
def d_Web_coins_at : Fn := ⟨2, 3, b_Web_coins_at⟩
/-- Web.counts(self, standing, found, string, coin) -/
def l_Web_counts_0 : Ss := (.cons (.oaug 2 (.v 4) .add (.c (.int 1))) .nil)
def l_Web_counts_1 : Ss := (.cons (.for (.v 4) (.e (.meth (.v 0) 3 (.cons (.v 3) .nil))) l_Web_counts_0) .nil)
def b_Web_counts : Ss := (.cons (.own 2 (.bin .mul (.fr (.lst (.cons (.c (.int 0)) .nil))) (.fld (.v 0) 0))) (.cons (.for (.v 3) (.e (.v 1)) l_Web_counts_1) (.cons (.ret (.v 2)) .nil)))
def d_Web_counts : Fn := ⟨2, 5, b_Web_counts⟩
/-- need_web(web) -/
def b_need_web : Ss := (.cons (.iff (.not (.e (.isi (.v 0) [.cls 0]))) (.cons (.raise 4 (.v 0)) .nil) .nil) .nil)
def d_need_web : Fn := ⟨1, 1, b_need_web⟩
/-- is_standing(web, thing) -/
def b_is_standing : Ss := (.cons (.ex (.call 9 (.cons (.v 0) .nil))) (.cons (.ret (.call 3 (.cons (.v 1) (.cons (.c (.int 0)) (.cons (.bin .sub (.bi .len (.cons (.fld (.v 0) 1) .nil)) (.c (.int 1))) .nil))))) .nil))
def d_is_standing : Fn := ⟨2, 2, b_is_standing⟩
/-- need_standing(web, standing) -/
def b_need_standing : Ss := (.cons (.iff (.not (.e (.call 10 (.cons (.v 0) (.cons (.v 1) .nil))))) (.cons (.raise 5 (.v 1)) .nil) .nil) .nil)
def d_need_standing : Fn := ⟨2, 2, b_need_standing⟩
/-- open_coins(web, standing, coin, many) -/
def b_open_coins : Ss := (.cons (.ex (.call 11 (.cons (.v 0) (.cons (.v 1) .nil)))) (.cons (.ret (.bi .tuple (.cons (.fr (.lc [2, 3] (.t [(.v 2), (.v 3)]) (.enum (.meth (.v 0) 4 (.cons (.v 1) .nil))) (some (.e (.cmp .gt (.v 3) (.c (.int 0))))) (.v 2))) .nil))) .nil))
def d_open_coins : Fn := ⟨2, 4, b_open_coins⟩
/-- links(web, standing, found, string, ends) -/
def l_links_0 : Ss := (.cons (.set 4 (.ix (.fld (.v 0) 1) (.v 3))) (.cons (.osix 2 (.v 4) (.bin .add (.bm (.v 2) .get (.cons (.v 4) (.cons (.c (.int 0)) .nil))) (.c (.int 1)))) .nil))
def b_links : Ss := (.cons (.own 2 (.dct .nil .nil)) (.cons (.for (.v 3) (.e (.v 1)) l_links_0) (.cons (.ret (.v 2)) .nil)))
def d_links : Fn := ⟨2, 5, b_links⟩
/-- linked(table, coin, other) -/
def b_linked : Ss := (.cons (.iff (.e (.cmp .eq (.v 2) (.g 0 c_GROUND))) (.cons (.ret (.bm (.v 0) .get (.cons (.tup (.cons (.v 1) (.cons (.g 0 c_GROUND) .nil))) (.cons (.c (.int 0)) .nil)))) .nil) .nil) (.cons (.ret (.bm (.v 0) .get (.cons (.tup (.cons (.bi .min (.cons (.v 1) (.cons (.v 2) .nil))) (.cons (.bi .max (.cons (.v 1) (.cons (.v 2) .nil))) .nil))) (.cons (.c (.int 0)) .nil)))) .nil))
def d_linked : Fn := ⟨3, 3, b_linked⟩
/-- row_behind(table, before, coin, other) -/
def b_row_behind : Ss := (.cons (.ret (.bi .tuple (.cons (.fr (.lc [3] (.v 3) (.e (.fr (.bin .add (.fr (.lst (.cons (.g 0 c_GROUND) .nil))) (.v 1)))) none (.call 14 (.cons (.v 0) (.cons (.v 2) (.cons (.v 3) .nil)))))) .nil))) .nil)
def d_row_behind : Fn := ⟨3, 4, b_row_behind⟩
/-- code_rows(table, numbering, place, coin) -/
def b_code_rows : Ss := (.cons (.ret (.bi .tuple (.cons (.fr (.lc [2, 3] (.t [(.v 2), (.v 3)]) (.enum (.v 1)) none (.call 15 (.cons (.v 0) (.cons (.fr (.of (.e (.sl (.v 1) none (some (.v 2)))))) (.cons (.v 3) .nil)))))) .nil))) .nil)
def d_code_rows : Fn := ⟨2, 4, b_code_rows⟩
/-- code_of(web, standing, numbering) -/
def b_code_of : Ss := (.cons (.ex (.call 11 (.cons (.v 0) (.cons (.v 1) .nil)))) (.cons (.iff (.not (.e (.call 4 (.cons (.v 2) (.cons (.call 12 (.cons (.v 0) (.cons (.v 1) .nil))) .nil))))) (.cons (.raise 6 (.v 2)) .nil) .nil) (.cons (.ret (.call 16 (.cons (.call 13 (.cons (.v 0) (.cons (.v 1) .nil))) (.cons (.v 2) .nil)))) .nil)))
def d_code_of : Fn := ⟨3, 3, b_code_of⟩
/-- _law_taken(row, many, found, cell) -/
def b__law_taken : Ss := (.cons (.iff (.e (.cmp .gt (.ix (.v 0) (.c (.int 3))) (.c (.int 0)))) (.cons (.set 2 (.bin .mod (.bi .int (.cons (.ix (.v 0) (.c (.int 3))) .nil)) (.v 1))) (.cons (.six (.v 0) (.c (.int 3)) (.bin .fdiv (.ix (.v 0) (.c (.int 3))) (.v 1))) (.cons (.ret (.v 2)) .nil))) .nil) (.cons (.six (.v 0) (.c (.int 1)) (.bin .add (.ix (.v 0) (.c (.int 1))) (.c (.int 1)))) (.cons (.iff (.e (.cmp .gt (.ix (.v 0) (.c (.int 1))) (.bi .len (.cons (.ix (.v 0) (.c (.int 0))) .nil)))) (.cons (.six (.v 0) (.c (.int 2)) (.bin .mod (.bi .int (.cons (.bin .add (.bin .mul (.ix (.v 0) (.c (.int 2))) (.c (.int 48271))) (.c (.int 11))) .nil)) (.c (.int 2147483647)))) (.cons (.ret (.bin .mod (.bi .int (.cons (.bin .fdiv (.ix (.v 0) (.c (.int 2))) (.c (.int 7))) .nil)) (.v 1))) .nil)) .nil) (.cons (.set 3 (.ix (.ix (.v 0) (.c (.int 0))) (.bin .sub (.ix (.v 0) (.c (.int 1))) (.c (.int 1))))) (.cons (.six (.v 0) (.c (.int 2)) (.bin .mod (.bi .int (.cons (.bin .add (.bin .add (.bin .mul (.ix (.v 0) (.c (.int 2))) (.c (.int 48271))) (.v 3)) (.c (.int 11))) .nil)) (.c (.int 2147483647)))) (.cons (.iff (.e (.cmp .ge (.v 3) (.bin .pow (.c (.int 10)) (.c (.int 18))))) (.cons (.six (.v 0) (.c (.int 3)) (.bin .fdiv (.v 3) (.v 1))) .nil) .nil) (.cons (.ret (.bin .mod (.bi .int (.cons (.v 3) .nil)) (.v 1))) .nil)))))))
def d__law_taken : Fn := ⟨2, 4, b__law_taken⟩
/-- _law_pick(row, some) -/
def b__law_pick : Ss := (.cons (.ret (.ix (.v 1) (.call 18 (.cons (.v 0) (.cons (.bi .len (.cons (.v 1) .nil)) .nil))))) .nil)
def d__law_pick : Fn := ⟨2, 2, b__law_pick⟩
/-- _law_alike(found, due, k, key) -/
def b__law_alike : Ss := (.cons (.iff (.e (.isi (.v 1) [.ty 3, .ty 4])) (.cons (.iff (.or (.not (.e (.isi (.v 0) [.ty 3, .ty 4]))) (.e (.cmp .ne (.isi (.v 0) [.ty 4]) (.isi (.v 1) [.ty 4])))) (.cons (.ret (.c (.bl false))) .nil) .nil) (.cons (.iff (.e (.cmp .ne (.bi .len (.cons (.v 0) .nil)) (.bi .len (.cons (.v 1) .nil)))) (.cons (.ret (.c (.bl false))) .nil) .nil) (.cons (.ret (.cmp .eq (.fr (.lc [2] (.v 2) (.r1 (.bi .len (.cons (.v 1) .nil))) (some (.not (.e (.call 20 (.cons (.ix (.v 0) (.v 2)) (.cons (.ix (.v 1) (.v 2)) .nil)))))) (.v 2))) (.fr (.lst .nil)))) .nil))) .nil) (.cons (.iff (.e (.isi (.v 1) [.ty 5])) (.cons (.iff (.or (.not (.e (.isi (.v 0) [.ty 5]))) (.e (.cmp .ne (.fr (.of (.e (.v 0)))) (.fr (.of (.e (.v 1))))))) (.cons (.ret (.c (.bl false))) .nil) .nil) (.cons (.ret (.cmp .eq (.fr (.lc [3] (.v 3) (.e (.v 1)) (some (.not (.e (.call 20 (.cons (.ix (.v 0) (.v 3)) (.cons (.ix (.v 1) (.v 3)) .nil)))))) (.v 3))) (.fr (.lst .nil)))) .nil)) .nil) (.cons (.iff (.or (.e (.cmp .is (.v 1) (.c .non))) (.e (.isi (.v 1) [.ty 2]))) (.cons (.ret (.and (.cmp .eq (.v 0) (.v 1)) (.cmp .eq (.isi (.v 0) [.ty 2]) (.isi (.v 1) [.ty 2])))) .nil) .nil) (.cons (.ret (.and (.isi (.v 0) [.ty 0]) (.and (.cmp .eq (.isi (.v 0) [.ty 1]) (.isi (.v 1) [.ty 1])) (.cmp .eq (.v 0) (.v 1))))) .nil))))
def d__law_alike : Fn := ⟨2, 4, b__law_alike⟩
/-- _law_string(row, coins, one, other) -/
def b__law_string : Ss := (.cons (.set 2 (.call 18 (.cons (.v 0) (.cons (.v 1) .nil)))) (.cons (.set 3 (.call 18 (.cons (.v 0) (.cons (.bin .add (.v 1) (.c (.int 2))) .nil)))) (.cons (.iff (.or (.e (.cmp .ge (.v 3) (.v 1))) (.e (.cmp .eq (.v 3) (.v 2)))) (.cons (.ret (.tup (.cons (.v 2) (.cons (.bin .sub (.c (.int 0)) (.c (.int 1))) .nil)))) .nil) .nil) (.cons (.ret (.tup (.cons (.bi .min (.cons (.v 2) (.cons (.v 3) .nil))) (.cons (.bi .max (.cons (.v 2) (.cons (.v 3) .nil))) .nil)))) .nil))))
def d__law_string : Fn := ⟨2, 4, b__law_string⟩
/-- _law_strings(row, coins, most, k) -/
def b__law_strings : Ss := (.cons (.ret (.fr (.lc [3] (.v 3) (.r1 (.bin .add (.c (.int 1)) (.call 18 (.cons (.v 0) (.cons (.v 2) .nil))))) none (.call 21 (.cons (.v 0) (.cons (.v 1) .nil)))))) .nil)
def d__law_strings : Fn := ⟨3, 4, b__law_strings⟩
/-- _law_numbers(mask, many, k) -/
def b__law_numbers : Ss := (.cons (.ret (.bi .tuple (.cons (.fr (.lc [2] (.v 2) (.r1 (.v 1)) (some (.e (.cmp .eq (.bin .mod (.bin .shr (.v 0) (.v 2)) (.c (.int 2))) (.c (.int 1))))) (.v 2))) .nil))) .nil)
def d__law_numbers : Fn := ⟨2, 3, b__law_numbers⟩
/-- _law_bad_web(row) -/
def b__law_bad_web : Ss := (.cons (.ret (.call 19 (.cons (.v 0) (.cons (.fr (.lst (.cons (.c .non) (.cons (.c (.int 3)) (.cons (.tup (.cons (.c (.int 1)) (.cons (.tup .nil) .nil))) (.cons (.c (.str [119, 101, 98])) (.cons (.fr (.lst .nil)) (.cons (.fr (.dct .nil .nil)) .nil)))))))) .nil)))) .nil)
def d__law_bad_web : Fn := ⟨1, 1, b__law_bad_web⟩
/-- _law_bad_standing(row, many) -/
def b__law_bad_standing : Ss := (.cons (.ret (.call 19 (.cons (.v 0) (.cons (.fr (.lst (.cons (.c .non) (.cons (.c (.int 3)) (.cons (.fr (.lst (.cons (.c (.int 0)) .nil))) (.cons (.tup (.cons (.v 1) .nil)) (.cons (.tup (.cons (.c (.int 0)) (.cons (.c (.int 0)) .nil))) (.cons (.tup (.cons (.c (.int 1)) (.cons (.c (.int 0)) .nil))) (.cons (.tup (.cons (.bin .sub (.c (.int 0)) (.c (.int 1))) .nil)) (.cons (.tup (.cons (.c (.str [48])) .nil)) (.cons (.tup (.cons (.c (.bl true)) .nil)) (.cons (.tup (.cons (.c (.int 0)) (.cons (.v 1) .nil))) .nil)))))))))))) .nil)))) .nil)
def d__law_bad_standing : Fn := ⟨2, 2, b__law_bad_standing⟩
/-- _law_ends(strings, some, found, k, coin) -/
def l__law_ends_0 : Ss := (.cons (.set 2 (.fr (.bin .add (.v 2) (.fr (.lc [4] (.v 4) (.e (.ix (.v 0) (.v 3))) (some (.e (.cmp .ge (.v 4) (.c (.int 0))))) (.v 4)))))) .nil)
def b__law_ends : Ss := (.cons (.set 2 (.fr (.lst .nil))) (.cons (.for (.v 3) (.e (.v 1)) l__law_ends_0) (.cons (.ret (.v 2)) .nil)))
def d__law_ends : Fn := ⟨2, 5, b__law_ends⟩
/-- _law_coins(strings, standing) -/
def b__law_coins : Ss := (.cons (.ret (.fr (.srtset (.call 26 (.cons (.v 0) (.cons (.v 1) .nil)))))) .nil)
def d__law_coins : Fn := ⟨2, 2, b__law_coins⟩
/-- _law_joins(strings, standing, coin, other, ends, k) -/
def b__law_joins : Ss := (.cons (.set 4 (.ife (.e (.cmp .lt (.v 3) (.c (.int 0)))) (.tup (.cons (.v 2) (.cons (.v 3) .nil))) (.tup (.cons (.bi .min (.cons (.v 2) (.cons (.v 3) .nil))) (.cons (.bi .max (.cons (.v 2) (.cons (.v 3) .nil))) .nil))))) (.cons (.ret (.bi .len (.cons (.fr (.lc [5] (.v 5) (.e (.v 1)) (some (.e (.cmp .eq (.ix (.v 0) (.v 5)) (.v 4)))) (.v 5))) .nil))) .nil))
def d__law_joins : Fn := ⟨4, 6, b__law_joins⟩
/-- _law_code(strings, standing, numbering, rows, place, others, other) -/
def l__law_code_0 : Ss := (.cons (.set 5 (.fr (.bin .add (.fr (.lst (.cons (.bin .sub (.c (.int 0)) (.c (.int 1))) .nil))) (.fr (.of (.e (.sl (.v 2) none (some (.v 4))))))))) (.cons (.obm 3 .append (.cons (.bi .tuple (.cons (.fr (.lc [6] (.v 6) (.e (.v 5)) none (.call 28 (.cons (.v 0) (.cons (.v 1) (.cons (.ix (.v 2) (.v 4)) (.cons (.v 6) .nil))))))) .nil)) .nil)) .nil))
def b__law_code : Ss := (.cons (.own 3 (.lst .nil)) (.cons (.for (.v 4) (.r1 (.bi .len (.cons (.v 2) .nil))) l__law_code_0) (.cons (.ret (.bi .tuple (.cons (.v 3) .nil))) .nil)))
def d__law_code : Fn := ⟨3, 7, b__law_code⟩
/-- _law_shuffled(row, some, left, found, turn, one, other) -/
def l__law_shuffled_0 : Ss := (.cons (.set 5 (.call 19 (.cons (.v 0) (.cons (.v 2) .nil)))) (.cons (.obm 3 .append (.cons (.v 5) .nil)) (.cons (.set 2 (.fr (.lc [6] (.v 6) (.e (.v 2)) (some (.e (.cmp .ne (.v 6) (.v 5)))) (.v 6)))) .nil)))
def b__law_shuffled : Ss := (.cons (.par [2, 3] [false, true] (.cons (.fr (.of (.e (.v 1)))) (.cons (.fr (.lst .nil)) .nil))) (.cons (.for (.v 4) (.r1 (.bi .len (.cons (.v 1) .nil))) l__law_shuffled_0) (.cons (.ret (.bi .tuple (.cons (.v 3) .nil))) .nil)))
def d__law_shuffled : Fn := ⟨2, 7, b__law_shuffled⟩
/-- law(script, row, coins, strings, web, many, turn, standing, order, wrong, none, other) -/
def l_law_0 : Ss := (.cons (.set 7 (.ife (.e (.cmp .gt (.v 6) (.c (.int 0)))) (.call 23 (.cons (.call 18 (.cons (.v 1) (.cons (.bin .shl (.c (.int 1)) (.v 5)) .nil))) (.cons (.v 5) .nil))) (.bit .tuple (.r1 (.v 5))))) (.cons (.set 8 (.call 30 (.cons (.v 1) (.cons (.call 27 (.cons (.v 3) (.cons (.v 7) .nil))) .nil)))) (.cons (.iff (.not (.e (.call 20 (.cons (.call 17 (.cons (.v 4) (.cons (.v 7) (.cons (.v 8) .nil)))) (.cons (.call 29 (.cons (.v 3) (.cons (.v 7) (.cons (.v 8) .nil)))) .nil))))) (.cons (.ret (.c (.bl false))) .nil) .nil) (.cons (.set 9 (.call 19 (.cons (.v 1) (.cons (.fr (.lst (.cons (.bin .add (.v 8) (.tup (.cons (.c (.int 9)) .nil))) (.cons (.bin .add (.v 8) (.v 8)) (.cons (.fr (.of (.e (.v 8)))) (.cons (.bin .add (.sl (.v 8) (some (.c (.int 1))) none) (.tup (.cons (.bin .sub (.c (.int 0)) (.c (.int 1))) .nil))) (.cons (.c .non) (.cons (.tup (.cons (.c (.str [48])) .nil)) (.cons (.bin .add (.v 8) (.tup (.cons (.c (.bl true)) .nil))) .nil))))))))) .nil)))) (.cons (.iff (.and (.e (.cmp .ne (.bi .repr (.cons (.rf 0 (.call 17 (.cons (.v 4) (.cons (.v 7) (.cons (.v 9) .nil))))) .nil)) (.bi .repr (.cons (.tup (.cons (.c (.str [111, 114, 100, 101, 114])) (.cons (.v 9) .nil))) .nil)))) (.e (.cmp .ne (.v 9) (.v 8)))) (.cons (.ret (.c (.bl false))) .nil) .nil) .nil)))))
def b_law : Ss := (.cons (.set 1 (.al (.lst (.cons (.v 0) (.cons (.c (.int 0)) (.cons (.c (.int 313)) (.cons (.c (.int 0)) .nil))))))) (.cons (.set 2 (.bin .add (.c (.int 1)) (.call 18 (.cons (.v 1) (.cons (.c (.int 5)) .nil))))) (.cons (.set 3 (.call 22 (.cons (.v 1) (.cons (.v 2) (.cons (.c (.int 8)) .nil))))) (.cons (.unp (.t [(.v 4), (.v 5)]) (.tup (.cons (.new 0 (.cons (.v 2) (.cons (.v 3) .nil))) (.cons (.bi .len (.cons (.v 3) .nil)) .nil)))) (.cons (.for (.v 6) (.r1 (.c (.int 4))) l_law_0) (.cons (.iff (.and (.e (.cmp .ne (.v 8) (.tup .nil))) (.e (.cmp .ne (.bi .repr (.cons (.rf 0 (.call 17 (.cons (.v 4) (.cons (.v 7) (.cons (.sl (.v 8) (some (.c (.int 1))) none) .nil))))) .nil)) (.bi .repr (.cons (.tup (.cons (.c (.str [111, 114, 100, 101, 114])) (.cons (.sl (.v 8) (some (.c (.int 1))) none) .nil))) .nil))))) (.cons (.ret (.c (.bl false))) .nil) .nil) (.cons (.unp (.t [(.v 10), (.v 11)]) (.tup (.cons (.call 25 (.cons (.v 1) (.cons (.v 5) .nil))) (.cons (.call 24 (.cons (.v 1) .nil)) .nil)))) (.cons (.iff (.e (.cmp .ne (.bi .repr (.cons (.rf 0 (.call 17 (.cons (.v 4) (.cons (.v 10) (.cons (.c .non) .nil))))) .nil)) (.bi .repr (.cons (.tup (.cons (.c (.str [115, 116, 97, 110, 100, 105, 110, 103])) (.cons (.v 10) .nil))) .nil)))) (.cons (.ret (.c (.bl false))) .nil) .nil) (.cons (.ret (.cmp .eq (.bi .repr (.cons (.rf 0 (.call 17 (.cons (.v 11) (.cons (.v 10) (.cons (.c .non) .nil))))) .nil)) (.bi .repr (.cons (.tup (.cons (.c (.str [119, 101, 98])) (.cons (.v 11) .nil))) .nil)))) .nil)))))))))
def d_law : Fn := ⟨1, 12, b_law⟩
abbrev f_is_integer : Nat := 0
abbrev f_is_within : Nat := 1
abbrev f_is_row : Nat := 2
abbrev f_is_rising : Nat := 3
abbrev f_is_order : Nat := 4
abbrev f_is_string : Nat := 5
abbrev f_Web___init__ : Nat := 6
abbrev f_Web_coins_at : Nat := 7
abbrev f_Web_counts : Nat := 8
abbrev f_need_web : Nat := 9
abbrev f_is_standing : Nat := 10
abbrev f_need_standing : Nat := 11
abbrev f_open_coins : Nat := 12
abbrev f_links : Nat := 13
abbrev f_linked : Nat := 14
abbrev f_row_behind : Nat := 15
abbrev f_code_rows : Nat := 16
abbrev f_code_of : Nat := 17
abbrev f__law_taken : Nat := 18
abbrev f__law_pick : Nat := 19
abbrev f__law_alike : Nat := 20
abbrev f__law_string : Nat := 21
abbrev f__law_strings : Nat := 22
abbrev f__law_numbers : Nat := 23
abbrev f__law_bad_web : Nat := 24
abbrev f__law_bad_standing : Nat := 25
abbrev f__law_ends : Nat := 26
abbrev f__law_coins : Nat := 27
abbrev f__law_joins : Nat := 28
abbrev f__law_code : Nat := 29
abbrev f__law_shuffled : Nat := 30
abbrev f_law : Nat := 31
abbrev k_Web : Nat := 0
abbrev k_BoxError : Nat := 1
abbrev k_BadCoins : Nat := 2
abbrev k_BadStrings : Nat := 3
abbrev k_BadWeb : Nat := 4
abbrev k_BadStanding : Nat := 5
abbrev k_BadOrder : Nat := 6
def slots : List (List String) := [["thing"], ["thing", "least", "most"], ["thing"], ["thing", "least", "most", "one", "other"], ["thing", "some", "one"], ["thing", "coins"], ["self", "coins", "strings", "index", "one"], ["self", "string", "coin"], ["self", "standing", "found", "string", "coin"], ["web"], ["web", "thing"], ["web", "standing"], ["web", "standing", "coin", "many"], ["web", "standing", "found", "string", "ends"], ["table", "coin", "other"], ["table", "before", "coin", "other"], ["table", "numbering", "place", "coin"], ["web", "standing", "numbering"], ["row", "many", "found", "cell"], ["row", "some"], ["found", "due", "k", "key"], ["row", "coins", "one", "other"], ["row", "coins", "most", "k"], ["mask", "many", "k"], ["row"], ["row", "many"], ["strings", "some", "found", "k", "coin"], ["strings", "standing"], ["strings", "standing", "coin", "other", "ends", "k"], ["strings", "standing", "numbering", "rows", "place", "others", "other"], ["row", "some", "left", "found", "turn", "one", "other"], ["script", "row", "coins", "strings", "web", "many", "turn", "standing", "order", "wrong", "none", "other"]]
def rps : List Bool := [false, false, false, false, false, false, false, false, false, false, false, false, false, false, false, false, false, false, false, false, false, false, false, false, false, false, false, false, false, false, false, true]
def lams : List Nat := [31]
def clsNames : List String := ["Web", "BoxError", "BadCoins", "BadStrings", "BadWeb", "BadStanding", "BadOrder"]
def globF : List (String × Nat) := [("is_integer", 0), ("is_within", 1), ("is_row", 2), ("is_rising", 3), ("is_order", 4), ("is_string", 5), ("need_web", 9), ("is_standing", 10), ("need_standing", 11), ("open_coins", 12), ("links", 13), ("linked", 14), ("row_behind", 15), ("code_rows", 16), ("code_of", 17), ("_law_taken", 18), ("_law_pick", 19), ("_law_alike", 20), ("_law_string", 21), ("_law_strings", 22), ("_law_numbers", 23), ("_law_bad_web", 24), ("_law_bad_standing", 25), ("_law_ends", 26), ("_law_coins", 27), ("_law_joins", 28), ("_law_code", 29), ("_law_shuffled", 30), ("law", 31)]
def globC : List (String × Nat) := [("Web", 0), ("BoxError", 1), ("BadCoins", 2), ("BadStrings", 3), ("BadWeb", 4), ("BadStanding", 5), ("BadOrder", 6)]
def globD : List (String × D) := [("MOST_COINS", c_MOST_COINS), ("MOST_STRINGS", c_MOST_STRINGS), ("GROUND", c_GROUND)]
def errs : List Nat := [1, 2, 3, 4, 5, 6]
def names : List String := ["GROUND", "MOST_COINS", "MOST_STRINGS"]
def attrs : List String := ["coins", "strings", "worths", "coins_at", "counts"]
def classes : List Cl := [⟨some 6, [(3, 7), (4, 8)]⟩]
def subs : List (Nat × Nat) := [(1, 1), (2, 2), (2, 1), (3, 3), (3, 1), (4, 4), (4, 1), (5, 5), (5, 1), (6, 6), (6, 1), (0, 0)]
def refusals : List (List (Nat × List Nat)) := [[(4, [119, 101, 98]), (5, [115, 116, 97, 110, 100, 105, 110, 103]), (6, [111, 114, 100, 101, 114])]]
def fns : List Fn := [d_is_integer, d_is_within, d_is_row, d_is_rising, d_is_order, d_is_string, d_Web___init__, d_Web_coins_at, d_Web_counts, d_need_web, d_is_standing, d_need_standing, d_open_coins, d_links, d_linked, d_row_behind, d_code_rows, d_code_of, d__law_taken, d__law_pick, d__law_alike, d__law_string, d__law_strings, d__law_numbers, d__law_bad_web, d__law_bad_standing, d__law_ends, d__law_coins, d__law_joins, d__law_code, d__law_shuffled, d_law]
def prog (rep : D → List Nat) : G := { fns := fns, cls := classes, sub := fun a b => subs.contains (a, b), rfs := refusals, rep := rep, na := 5 }
end P
end
section
set_option autoImplicit false
set_option linter.all false
set_option maxRecDepth 10000
open Mi
namespace K16
abbrev pr (rep : D → List Nat) : G := P.prog rep
variable {rep : D → List Nat} {n : Nat} {h : AH}
theorem cl0 : (pr rep).cls[0]? = some ⟨some 6, [(3, 7), (4, 8)]⟩ := rfl
/-- plain values that may be asked what they are -/
def ask : D → Bool
  | .set _ | .ref _ | .fn _ | .cls _ | .ty _ => false
  | _ => true
def isI : D → Bool
  | .int _ => true
  | _ => false
def isW (d : D) (a b : Int) : Bool := match d with
  | .int i => decide (a ≤ i) && decide (i ≤ b)
  | _ => false
def toI : D → Int
  | .int i => i
  | _ => 0
@[simp] theorem toI_int (i : Int) : toI (.int i) = i := rfl
def isT : D → Bool
  | .tup _ => true
  | _ => false
theorem is_integer (d : D) (hd : ask d = true) : callD (pr rep) (n + 1) 0 [d] h = .ok (.bl (isI d)) h := by
  cases d <;> first | rfl | (cases hd)
theorem is_within (d : D) (a b : Int) (hd : ask d = true) : callD (pr rep) (n + 2) 1 [d, .int a, .int b] h = .ok (.bl (isW d a b)) h := by
  rw [call_eq (fn := P.d_is_within) rfl rfl]
  simp [P.d_is_within, P.b_is_within, evSs, evS, evE, evEs, evPs, evB, evF, evI, evOB, evO, evV, startEnv, endFl, isOwn, ownI, bindT, bindTs, wipe, parOk, bindP, itD, is_integer, hd]
  cases d with
  | int i =>
    simp [isI, isW]
    cases decide (a ≤ i) <;> rfl
  | _ => rfl
theorem is_within_int (i a b : Int) : callD (pr rep) (n + 2) 1 [.int i, .int a, .int b] h = .ok (.bl (decide (a ≤ i) && decide (i ≤ b))) h := is_within (.int i) a b rfl
theorem is_row (d : D) (hd : ask d = true) : callD (pr rep) (n + 1) 2 [d] h = .ok (.bl (match d with | .tup _ | .lst _ => true | _ => false)) h := by
  cases d <;> first | rfl | (cases hd)
theorem is_row_lst (xs : List D) : callD (pr rep) (n + 1) 2 [.lst xs] h = .ok (.bl true) h := rfl
theorem is_rising_no (d : D) (a b : Int) (hd : ask d = true) (ht : isT d = false) : callD (pr rep) (n + 3) 3 [d, .int a, .int b] h = .ok (.bl false) h := by
  cases d <;> first | rfl | (cases hd; done) | (cases ht)
def ups (xs : List Int) : Bool := (xs.zip xs.tail).all fun p => decide (p.1 < p.2)
/-- ascending numbers within bounds -/
def isR (ds : List D) (a b : Int) : Bool := ds.all (isW · a b) && ups (ds.map toI)
theorem isW_int {d : D} {a b : Int} (h : isW d a b = true) : ∃ i, d = .int i ∧ a ≤ i ∧ i ≤ b := by
  cases d with
  | int i =>
    simp [isW] at h
    exact ⟨i, rfl, h⟩
  | _ => cases h
theorem allW_int {ds : List D} {a b : Int} (h : ds.all (isW · a b) = true) : ∃ xs : List Int, ds = xs.map .int ∧ ∀ x ∈ xs, a ≤ x ∧ x ≤ b := by
  induction ds with
  | nil => exact ⟨[], rfl, fun x hx => by cases hx⟩
  | cons d ds ih =>
    rw [List.all_cons, Bool.and_eq_true] at h
    obtain ⟨i, rfl, hi⟩ := isW_int h.1
    obtain ⟨xs, rfl, hx⟩ := ih h.2
    refine ⟨i :: xs, rfl, fun x hx2 => ?_⟩
    rcases List.mem_cons.mp hx2 with e | e
    · rw [e]; exact hi
    · exact hx x e
theorem is_rising (ds : List D) (a b : Int) (hd : ∀ d ∈ ds, ask d = true) : callD (pr rep) (n + 3) 3 [.tup ds, .int a, .int b] h = .ok (.bl (isR ds a b)) h := by
  rw [call_eq (fn := P.d_is_rising) rfl rfl]
  simp [P.d_is_rising, P.b_is_rising, evSs, evS, evE, evEs, evPs, evB, evF, evI, evOB, evO, evV, startEnv, endFl, isOwn, ownI, bindT, bindTs, wipe, parOk, bindP, itD, isinD, isinD1, isTy]
  rw [compL_pure (f := fun d => some (.bl (isW d a b))) rfl]
  · simp only [filterMap_map, bind_ok, biAll, ofO_some, truD_bl]
    cases ha : ds.all (isW · a b) with
    | false => simp [isR, ha, endFl]
    | true =>
      obtain ⟨xs, rfl, hx⟩ := allW_int ha
      simp [slD, cut1, isTup]
      rw [← List.map_tail, zip_int, compL_map (mk := fun p : Int × Int => D.tup [.int p.1, .int p.2]) (f := fun p => some (.bl (decide (p.1 < p.2)))) rfl]
      · simp only [filterMap_map, bind_ok, biAll, ofO_some]
        simp [isR, ha, ups, endFl, Function.comp_def]
      · intro p hp
        simp [bindT, bindTs]
  · intro d hd'
    simp [is_within, hd d hd']
/-- all ints -/
theorem allI_int {ds : List D} (h : ds.all isI = true) : ∃ xs : List Int, ds = xs.map .int := by
  induction ds with
  | nil => exact ⟨[], rfl⟩
  | cons d ds ih =>
    rw [List.all_cons, Bool.and_eq_true] at h
    obtain ⟨xs, rfl⟩ := ih h.2
    cases d with
    | int i => exact ⟨i :: xs, rfl⟩
    | _ => cases h.1
theorem ask_int {xs : List Int} : ∀ d ∈ xs.map D.int, ask d = true := fun d hd => by
  obtain ⟨i, _, rfl⟩ := List.mem_map.mp hd
  rfl
theorem is_order_no (d y : D) (hd : ask d = true) (ht : isT d = false) : callD (pr rep) (n + 2) 4 [d, y] h = .ok (.bl false) h := by
  cases d <;> first | rfl | (cases hd; done) | (cases ht)
theorem is_order (ds : List D) (ys : List Int) (hd : ∀ d ∈ ds, ask d = true) : callD (pr rep) (n + 2) 4 [.tup ds, .tup (ys.map .int)] h =
    .ok (.bl (ds.all isI && decide (sortI (ds.map toI) = sortI ys))) h := by
  rw [call_eq (fn := P.d_is_order) rfl rfl]
  simp [P.d_is_order, P.b_is_order, evSs, evS, evE, evEs, evPs, evB, evF, evI, evOB, evO, evV, startEnv, endFl, isOwn, ownI, bindT, bindTs, wipe, parOk, bindP, itD, isinD, isinD1, isTy]
  rw [compL_pure (f := fun d => some (.bl (isI d))) rfl]
  · simp only [filterMap_map, bind_ok, biAll, ofO_some, truD_bl]
    cases ha : ds.all isI with
    | false => simp [ha, endFl]
    | true =>
      obtain ⟨xs, rfl⟩ := allI_int ha
      simp [cmpD, D.eqv, eqvs_int, Function.comp_def]
  · intro d hd'
    simp [is_integer, hd d hd']
/-! ### webs -/
/-- a string's two ends -/
def sd (p : Int × Int) : D := .tup [.int p.1, .int p.2]
def okS (c : Int) (p : Int × Int) : Prop := 0 ≤ p.1 ∧ p.1 < c ∧ (p.1 < p.2 ∧ p.2 < c ∨ p.2 = -1)
def webO (c : Int) (ss : List (Int × Int)) : MObj := .ins 0 [(0, .int c), (1, .tup (ss.map sd)), (2, .dct [] [])]
theorem is_string {c : Int} {p : Int × Int} (hp : okS c p) : callD (pr rep) (n + 3) 5 [sd p, .int c] h = .ok (.bl true) h := by
  obtain ⟨a, b⟩ := p
  obtain ⟨h1, h2, h3⟩ := hp
  rw [call_eq (fn := P.d_is_string) rfl rfl]
  have e1 : decide (a ≤ c - 1) = true := decide_eq_true (by omega)
  have e2 : decide (0 ≤ a) = true := decide_eq_true h1
  simp only [P.d_is_string, P.b_is_string, evSs, evS, evE, evEs, evPs, evB, evF, evI, evOB, evO, evV, startEnv, endFl, isOwn, ownI, bindT, bindTs, wipe, parOk, bindP, itD, isinD, isinD1, isTy, sd, P.c_GROUND]
  simp [is_within_int, h1, e1, evSs, evS, evE, evEs, evPs, evB, evF, evI, evOB, evO, evV, startEnv, endFl, isOwn, ownI, bindT, bindTs, wipe, parOk, bindP, itD]
  rcases h3 with ⟨h3, h4⟩ | h3
  · simp [decide_eq_true (by omega : a + 1 ≤ b), decide_eq_true (by omega : b ≤ c - 1)]
  · have h3 : b = -1 := h3
    subst h3
    have h1 : 0 ≤ a := h1
    simp [show ¬ (a + 1 ≤ -1) by omega]
theorem sd_ne {c : Int} {p : Int × Int} : ∀ d ∈ [sd p], ask d = true := fun d hd => by
  rw [List.mem_singleton.mp hd]
  rfl
/-- Web(..) -/
theorem web_init {c : Int} {ss : List (Int × Int)} {k : Nat} (hk : h[k]? = some (.ins 0 [])) (h1 : 1 ≤ c) (h9 : c ≤ 9) (hl : ss.length ≤ 12) (hv : ∀ p ∈ ss, okS c p) :
    callD (pr rep) (n + 4) 6 [.ref k, .int c, .lst (ss.map sd)] h = .ok .non (h.set k (webO c ss)) := by
  have hlt : k < h.length := (List.getElem?_eq_some_iff.mp hk).1
  obtain ⟨en', h', e, _, hh, x, y, he⟩ := forL_map (fun p : (Int × Int) × Nat => D.tup [.int p.2, sd p.1]) (fun rest en h' => (∀ p ∈ rest, okS c p.1) ∧ h' = h ∧ ∃ x y, en = [.v (.ref k), .v (.int c), .v (.lst (ss.map sd)), x, y])
    (g := same none h) (step := forStep (pr rep) (callD (pr rep) (n + 3)) (.t [.v 3, .v 4]) P.l_Web___init___0) (fun p rest en h2 hI => by
      obtain ⟨i1, rfl, x, y, rfl⟩ := hI
      refine ⟨_, h2, ?_, rfl, fun q hq => i1 q (List.mem_cons_of_mem _ hq), rfl, .v (.int p.2), .v (sd p.1), rfl⟩
      simp [forStep, evSs, evS, evE, evEs, evPs, evB, evF, evI, evOB, evO, evV, startEnv, endFl, isOwn, ownI, bindT, bindTs, wipe, parOk, bindP, itD, P.l_Web___init___0, is_string (i1 p List.mem_cons_self)]) (l := ss.zipIdx) (en := [.v (.ref k), .v (.int c), .v (.lst (ss.map sd)), .un, .un]) (h := h) ⟨fun p hp => hv _ (by
        have := List.mem_zipIdx hp
        rw [this.2.2]
        exact List.getElem_mem _), rfl, _, _, rfl⟩
  subst hh he
  refine call_nx (fn := P.d_Web___init__) (en := [.v (.ref k), .v (.int c), .v (.lst (ss.map sd)), x, y]) rfl rfl ?_
  show evSs (pr rep) (callD (pr rep) (n + 3)) P.b_Web___init__ [.v (.ref k), .v (.int c), .v (.lst (ss.map sd)), .un, .un] h' = _
  have e3 : ¬ ((12 : Int) < (ss.length : Int)) := by omega
  unfold P.b_Web___init__
  refine (ss_nx (en' := [.v (.ref k), .v (.int c), .v (.lst (ss.map sd)), .un, .un]) (h' := h') ?_).trans ?_
  · simp [evSs, evS, evE, evEs, evPs, evB, evF, evI, evOB, evO, evV, startEnv, endFl, isOwn, ownI, bindT, bindTs, wipe, parOk, bindP, itD, P.c_MOST_COINS, is_within_int, h1, h9]
  refine (ss_nx (en' := [.v (.ref k), .v (.int c), .v (.lst (ss.map sd)), .un, .un]) (h' := h') ?_).trans ?_
  · simp [evSs, evS, evE, evEs, evPs, evB, evF, evI, evOB, evO, evV, startEnv, endFl, isOwn, ownI, bindT, bindTs, wipe, parOk, bindP, itD, P.c_MOST_STRINGS, is_row_lst, e3]
  refine (ss_nx (en' := [.v (.ref k), .v (.int c), .v (.lst (ss.map sd)), x, y]) (h' := h') ?_).trans ?_
  · rw [for_eq (xs := ((ss.zipIdx).map fun p => D.tup [.int p.2, sd p.1], none)) (h' := h') rfl (by simp [evSs, evS, evE, evEs, evPs, evB, evF, evI, evOB, evO, evV, startEnv, endFl, isOwn, ownI, bindT, bindTs, wipe, parOk, bindP, itD, enum_map])]
    exact e
  have s1 : ∀ o : MObj, (h'.set k o)[k]? = some o := fun o => List.getElem?_set_self hlt
  simp [evSs, evS, evE, evEs, evPs, evB, evF, evI, evOB, evO, evV, startEnv, endFl, isOwn, ownI, bindT, bindTs, wipe, parOk, bindP, itD, hk, s1, P.prog, P.classes, noMeth, mlook, fput, webO]
/-! readings of a web at w -/
section
variable {w : Nat} {c : Int} {ss : List (Int × Int)}
/-- the coins at a string -/
def epts (p : Int × Int) : List Int := [p.1, p.2].filter fun i => !decide (i = -1)
theorem coins_at (hw : h[w]? = some (webO c ss)) {k : Nat} {p : Int × Int} (hk : ss[k]? = some p) : callD (pr rep) (n + 1) 7 [.ref w, .int k] h = .ok (.lst ((epts p).map .int)) h := by
  refine call_rt (fn := P.d_Web_coins_at) rfl rfl ?_
  unfold P.d_Web_coins_at P.b_Web_coins_at
  have e : evI (pr rep) (callD (pr rep) n) (.e (.ix (.fld (.v 0) 1) (.v 1))) (startEnv 3 [.ref w, .int k]) h = .ok ([.int p.1, .int p.2], none) h := by
    simp [evSs, evS, evE, evEs, evPs, evB, evF, evI, evOB, evO, evV, startEnv, endFl, isOwn, ownI, bindT, bindTs, wipe, parOk, bindP, itD, hw, webO, flook, hk, sd]
  rw [ss_rt]
  rw [evS, evE, lc_eq e]
  show ((compL _ _ ([p.1, p.2].map D.int) h).bind _).bind _ = _
  rw [compL_map (mk := D.int) (f := fun i => if i = -1 then none else some (.int i)) rfl]
  · by_cases q1 : p.1 = -1 <;> by_cases q2 : p.2 = -1 <;> simp [epts, q1, q2]
  · intro i hi
    by_cases q : i = -1 <;> simp [lcStep, evSs, evS, evE, evEs, evPs, evB, evF, evI, evOB, evO, evV, startEnv, endFl, isOwn, ownI, bindT, bindTs, wipe, parOk, bindP, itD, P.c_GROUND, q]
end
end K16
end
section
set_option autoImplicit false
set_option linter.all false
set_option maxRecDepth 10000
open Mi
namespace K16
variable {rep : D → List Nat} {n : Nat} {h : AH} {w : Nat} {c : Int} {ss : List (Int × Int)}
abbrev nI (k : Nat) : D := .int (k : Int)
/-! ### counts, open coins -/
def bump (l : List Int) (i : Int) : List Int := l.set i.toNat (l[i.toNat]?.getD 0 + 1)
/-- all ends of a standing's strings, in order -/
def ends1 (ss : List (Int × Int)) (k : Nat) : List Int := epts (ss.getD k (0, 0))
def allE (ss : List (Int × Int)) (st : List Nat) : List Int := st.flatMap (ends1 ss)
def cnts (c : Int) (es : List Int) : List Int := es.foldl bump (List.replicate c.toNat 0)
theorem bump_len (l : List Int) (i : Int) : (bump l i).length = l.length := by simp [bump]
theorem foldl_len (es : List Int) : ∀ l : List Int, (es.foldl bump l).length = l.length := by
  induction es with
  | nil => intro l; rfl
  | cons e es ih => intro l; rw [List.foldl_cons, ih, bump_len]
theorem counts_step {l : List Int} {i : Int} (h0 : 0 ≤ i) (hi : i < l.length) {x y : MSlot} {a b : D} {call : CallT} :
    forStep (pr rep) call (.v 4) P.l_Web_counts_0 (.int i) [.v a, .v b, .o (.lst (l.map .int)), x, y] h = .ok (.nx [.v a, .v b, .o (.lst ((bump l i).map .int)), x, .v (.int i)]) h := by
  have e1 : (List.map D.int l)[i.toNat]? = some (.int (l[i.toNat]?.getD 0)) := by
    rw [List.getElem?_map, List.getElem?_eq_getElem (by omega)]
    rfl
  have e2 : place l.length i = some i.toNat := by
    unfold place
    rw [if_pos h0, if_pos hi]
  have e3 : (List.map D.int l).set i.toNat (.int (l[i.toNat]?.getD 0 + 1)) = (bump l i).map .int := by
    rw [bump, List.map_set]
  simp only [forStep, evSs, evS, evE, evEs, evPs, evB, evF, evI, evOB, evO, evV, startEnv, endFl, isOwn, ownI, bindT, bindTs, wipe, parOk, bindP, itD, P.l_Web_counts_0]
  simp [evSs, evS, evE, evEs, evPs, evB, evF, evI, evOB, evO, evV, startEnv, endFl, isOwn, ownI, bindT, bindTs, wipe, parOk, bindP, itD, ix_lst_int _ _ h0, e1, binI, objD, putO, e2, e3, MObj.d]
theorem epts_ok {p : Int × Int} (hp : okS c p) : ∀ i ∈ epts p, 0 ≤ i ∧ i < c := fun i hi => by
  obtain ⟨h1, h2, h3⟩ := hp
  unfold epts at hi
  rw [List.mem_filter] at hi
  obtain ⟨hm, hn⟩ := hi
  simp at hm hn
  rcases hm with e | e
  · subst e; exact ⟨h1, h2⟩
  · subst e
    rcases h3 with h3 | h3
    · omega
    · exact absurd h3 hn
theorem ends1_ok (hv : ∀ p ∈ ss, okS c p) {k : Nat} (hk : k < ss.length) : ∀ i ∈ ends1 ss k, 0 ≤ i ∧ i < c := by
  unfold ends1
  rw [List.getD_eq_getElem?_getD, List.getElem?_eq_getElem hk]
  exact epts_ok (hv _ (List.getElem_mem _))
theorem inner {es : List Int} {call : CallT} {a b : D} {x y : MSlot} {l : List Int} (he : ∀ i ∈ es, 0 ≤ i ∧ i < l.length) : ∃ y', forL (same none h) (forStep (pr rep) call (.v 4) P.l_Web_counts_0) (es.map D.int) [.v a, .v b, .o (.lst (l.map .int)), x, y] h =
    .ok (.nx [.v a, .v b, .o (.lst ((es.foldl bump l).map .int)), x, y']) h := by
  induction es generalizing l y with
  | nil => exact ⟨y, rfl⟩
  | cons e es ih =>
    obtain ⟨h0, hi⟩ := he e List.mem_cons_self
    rw [List.map_cons, forL, counts_step h0 hi]
    simp only [same_none, if_true]
    exact ih fun i hi => by rw [bump_len]; exact he i (List.mem_cons_of_mem _ hi)
theorem counts_outer (hw : h[w]? = some (webO c ss)) (hc : 0 ≤ c) (hv : ∀ p ∈ ss, okS c p) {k : Nat} (hk : k < ss.length) {l : List Int} (hl : (l.length : Int) = c) {b : D} {x y : MSlot} : ∃ y',
    forStep (pr rep) (callD (pr rep) (n + 1)) (.v 3) P.l_Web_counts_1 (nI k) [.v (.ref w), .v b, .o (.lst (l.map .int)), x, y] h =
      .ok (.nx [.v (.ref w), .v b, .o (.lst (((ends1 ss k).foldl bump l).map .int)), .v (nI k), y']) h := by
  obtain ⟨y', e⟩ := inner (rep := rep) (h := h) (es := ends1 ss k) (call := callD (pr rep) (n + 1)) (a := .ref w) (b := b) (x := .v (nI k)) (y := y) (l := l) (by rw [hl]; exact ends1_ok hv hk)
  refine ⟨y', ?_⟩
  unfold forStep
  show evSs (pr rep) (callD (pr rep) (n + 1)) P.l_Web_counts_1 [.v (.ref w), .v b, .o (.lst (l.map .int)), .v (nI k), y] h = _
  unfold P.l_Web_counts_1
  have hp : ss[k]? = some (ss.getD k (0, 0)) := by rw [List.getD_eq_getElem?_getD, List.getElem?_eq_getElem hk]; rfl
  rw [ss_nx (en' := [.v (.ref w), .v b, .o (.lst (((ends1 ss k).foldl bump l).map .int)), .v (nI k), y']) (h' := h)]
  · simp [evSs]
  · rw [for_eq (xs := ((ends1 ss k).map D.int, none)) (h' := h) rfl]
    · exact e
    · have := coins_at (rep := rep) (n := n) hw hp
      rw [show D.int (k : Int) = nI k from rfl] at this
      simp [evSs, evS, evE, evEs, evPs, evB, evF, evI, evOB, evO, evV, startEnv, endFl, isOwn, ownI, bindT, bindTs, wipe, parOk, bindP, itD, methF, hw, webO, cl0, mlook, flook, this]
      simp [ends1]
theorem counts (hw : h[w]? = some (webO c ss)) (hc : 0 ≤ c) (hcm : c ≤ 9) (hv : ∀ p ∈ ss, okS c p) {st : List Nat} (hs : ∀ k ∈ st, k < ss.length) :
    callD (pr rep) (n + 2) 8 [.ref w, .tup (st.map nI)] h = .ok (.lst ((cnts c (allE ss st)).map .int)) h := by
  have loop : ∀ (st : List Nat) (l : List Int) (x y : MSlot), (∀ k ∈ st, k < ss.length) → (l.length : Int) = c → ∀ b : D, ∃ x' y', forL (same none h) (forStep (pr rep) (callD (pr rep) (n + 1)) (.v 3) P.l_Web_counts_1) (st.map nI) [.v (.ref w), .v b, .o (.lst (l.map .int)), x, y] h =
      .ok (.nx [.v (.ref w), .v b, .o (.lst (((allE ss st).foldl bump l).map .int)), x', y']) h := by
    intro st
    induction st with
    | nil => intro l x y _ _ b; exact ⟨x, y, rfl⟩
    | cons k st ih =>
      intro l x y hs hl b
      obtain ⟨y', e⟩ := counts_outer (rep := rep) (n := n) hw hc hv (hs k List.mem_cons_self) hl (b := b) (x := x) (y := y)
      obtain ⟨x2, y2, e2⟩ := ih ((ends1 ss k).foldl bump l) (.v (nI k)) y' (fun j hj => hs j (List.mem_cons_of_mem _ hj)) (by rw [foldl_len]; exact hl) b
      refine ⟨x2, y2, ?_⟩
      rw [List.map_cons, forL, e]
      simp only [same_none, if_true, e2]
      simp [allE]
  obtain ⟨x', y', e⟩ := loop st (List.replicate c.toNat 0) .un .un hs (by rw [List.length_replicate]; omega) (.tup (st.map nI))
  refine call_rt (fn := P.d_Web_counts) rfl rfl ?_
  show evSs (pr rep) (callD (pr rep) (n + 1)) P.b_Web_counts [.v (.ref w), .v (.tup (st.map nI)), .un, .un, .un] h = _
  unfold P.b_Web_counts
  rw [ss_nx (en' := [.v (.ref w), .v (.tup (st.map nI)), .o (.lst ((List.replicate c.toNat (0 : Int)).map .int)), .un, .un]) (h' := h), ss_nx (en' := [.v (.ref w), .v (.tup (st.map nI)), .o (.lst (((allE ss st).foldl bump (List.replicate c.toNat 0)).map .int)), x', y']) (h' := h)]
  · simp [evSs, evS, evE, evEs, evPs, evB, evF, evI, evOB, evO, evV, startEnv, endFl, isOwn, ownI, bindT, bindTs, wipe, parOk, bindP, itD, cnts]
  · rw [for_eq (xs := (st.map nI, none)) (h' := h) rfl (by simp [evSs, evS, evE, evEs, evPs, evB, evF, evI, evOB, evO, evV, startEnv, endFl, isOwn, ownI, bindT, bindTs, wipe, parOk, bindP, itD])]
    exact e
  · have : c.toNat ≤ most := by unfold most; omega
    have cond : -4611686018427387904 ≤ c ∧ c < 4611686018427387904 ∧ c ≤ (most : Int) := by
      unfold most
      omega
    simp [evSs, evS, evE, evEs, evPs, evB, evF, evI, evOB, evO, evV, startEnv, endFl, isOwn, ownI, bindT, bindTs, wipe, parOk, bindP, itD, hw, webO, flook, binF]
    rw [if_pos cond]
    rfl
/-! ### open coins -/
theorem bump_get {l : List Int} {e : Int} (h0 : 0 ≤ e) (he : e < l.length) (i : Nat) : (bump l e)[i]?.getD 0 = if (i : Int) = e then l[i]?.getD 0 + 1 else l[i]?.getD 0 := by
  unfold bump
  by_cases q : (i : Int) = e
  · have : e.toNat = i := by omega
    rw [if_pos q, this, List.getElem?_set_self (by omega)]
    rfl
  · have : e.toNat ≠ i := by omega
    rw [if_neg q, List.getElem?_set_ne this]
theorem foldl_pos {es : List Int} : ∀ {l : List Int}, (∀ e ∈ es, 0 ≤ e ∧ e < l.length) → (∀ x ∈ l, 0 ≤ x) → ∀ i : Nat, (∀ x ∈ es.foldl bump l, 0 ≤ x) ∧ (0 < (es.foldl bump l)[i]?.getD 0 ↔ 0 < l[i]?.getD 0 ∨ (i : Int) ∈ es) := by
  induction es with
  | nil => intro l _ hl i; exact ⟨hl, by simp⟩
  | cons e es ih =>
    intro l he hl i
    obtain ⟨h0, h1⟩ := he e List.mem_cons_self
    have hb : ∀ x ∈ bump l e, 0 ≤ x := fun x hx => by
      obtain ⟨j, hj⟩ := List.mem_iff_getElem?.mp hx
      have g := bump_get h0 h1 j
      rw [hj] at g
      have g : x = _ := g
      rw [g]
      have nn : 0 ≤ l[j]?.getD 0 := by
        cases q : l[j]? with
        | none => exact Int.le_refl _
        | some y => exact hl y (List.mem_of_getElem? q)
      split <;> omega
    obtain ⟨a, b⟩ := ih (l := bump l e) (fun x hx => by rw [bump_len]; exact he x (List.mem_cons_of_mem _ hx)) hb i
    refine ⟨a, b.trans ?_⟩
    rw [bump_get h0 h1 i, List.mem_cons]
    have nn : 0 ≤ l[i]?.getD 0 := by
      cases q : l[i]? with
      | none => exact Int.le_refl _
      | some y => exact hl y (List.mem_of_getElem? q)
    by_cases q : (i : Int) = e
    · simp only [q, if_true, true_or, or_true, iff_true]
      exact .inl (by omega)
    · simp only [q, if_false, false_or]
def opens (c : Int) (es : List Int) : List Int := (cnts c es).zipIdx.filterMap fun p => if 0 < p.1 then some (p.2 : Int) else none
theorem zip_idx_mem {l : List Int} {k : Int} : (k ∈ l.zipIdx.filterMap fun p => if 0 < p.1 then some (p.2 : Int) else none) ↔ ∃ i : Nat, k = i ∧ 0 < l[i]?.getD 0 := by
  rw [List.mem_filterMap]
  constructor
  · rintro ⟨⟨x, i⟩, hm, e⟩
    have := List.mem_zipIdx_iff_getElem?.mp hm
    dsimp only at this e
    by_cases q : 0 < x
    · rw [if_pos q] at e
      exact ⟨i, (Option.some.inj e).symm, by rw [this]; exact q⟩
    · rw [if_neg q] at e; cases e
  · rintro ⟨i, rfl, hp⟩
    cases q : l[i]? with
    | none => rw [q] at hp; exact absurd hp (Int.lt_irrefl _)
    | some x =>
      rw [q] at hp
      have hp : 0 < x := hp
      exact ⟨(x, i), List.mem_zipIdx_iff_getElem?.mpr q, if_pos hp⟩
theorem zip_idx_nodup {l : List Int} : (l.zipIdx.filterMap fun p => if 0 < p.1 then some (p.2 : Int) else none).Nodup := by
  have key : ∀ (l : List Int) (j : Nat), ((l.zipIdx j).filterMap fun p => if 0 < p.1 then some (p.2 : Int) else none).Nodup ∧ ∀ k ∈ ((l.zipIdx j).filterMap fun p => if 0 < p.1 then some (p.2 : Int) else none), (j : Int) ≤ k := by
    intro l
    induction l with
    | nil => intro j; exact ⟨by simp, fun k hk => by simp at hk⟩
    | cons x l ih =>
      intro j
      obtain ⟨a, b⟩ := ih (j + 1)
      rw [List.zipIdx_cons, List.filterMap_cons]
      by_cases q : 0 < x
      · simp only [q, if_true]
        refine ⟨List.nodup_cons.mpr ⟨fun hm => ?_, a⟩, fun k hk => ?_⟩
        · have := b _ hm
          omega
        · rcases List.mem_cons.mp hk with e | e
          · omega
          · have := b k e
            omega
      · simp only [q, if_false]
        exact ⟨a, fun k hk => by have := b k hk; omega⟩
  exact (key l 0).1
theorem opens_nodup (c : Int) (es : List Int) : (opens c es).Nodup := zip_idx_nodup
theorem mem_opens {es : List Int} (hc : 0 ≤ c) (he : ∀ e ∈ es, 0 ≤ e ∧ e < c) (k : Int) : k ∈ opens c es ↔ k ∈ es := by
  have hl : ∀ e ∈ es, 0 ≤ e ∧ e < ((List.replicate c.toNat (0 : Int)).length : Int) := fun e h => by
    have := he e h
    rw [List.length_replicate]
    omega
  have h0 : ∀ x ∈ List.replicate c.toNat (0 : Int), 0 ≤ x := fun x hx => by rw [List.eq_of_mem_replicate hx]; omega
  have hz : ∀ i : Nat, ¬ 0 < (List.replicate c.toNat (0 : Int))[i]?.getD 0 := fun i hi => by
    cases q : (List.replicate c.toNat (0 : Int))[i]? with
    | none => rw [q] at hi; exact absurd hi (Int.lt_irrefl _)
    | some x =>
      rw [q] at hi
      rw [List.eq_of_mem_replicate (List.mem_of_getElem? q)] at hi
      exact absurd hi (Int.lt_irrefl _)
  unfold opens cnts
  rw [zip_idx_mem]
  constructor
  · rintro ⟨i, rfl, hp⟩
    rcases (foldl_pos hl h0 i).2.mp hp with z | z
    · exact absurd z (hz i)
    · exact z
  · intro hk
    have := (he k hk).1
    refine ⟨k.toNat, by omega, (foldl_pos hl h0 k.toNat).2.mpr (.inr ?_)⟩
    rw [Int.toNat_of_nonneg this]
    exact hk
/-! ### standings -/
theorem need_web (hw : h[w]? = some (webO c ss)) : callD (pr rep) (n + 1) 9 [.ref w] h = .ok .non h := by
  refine call_nx (fn := P.d_need_web) (en := [.v (.ref w)]) rfl rfl ?_
  simp [P.d_need_web, P.b_need_web, evSs, evS, evE, evEs, evPs, evB, evF, evI, evOB, evO, evV, startEnv, endFl, isOwn, ownI, bindT, bindTs, wipe, parOk, bindP, itD, isinD, isinD1, isIns, hw, webO, show (pr rep).sub 0 0 = true from rfl]
theorem need_web_no {d : D} (hd : ask d = true) : callD (pr rep) (n + 1) 9 [d] h = .exc 4 d h := by
  cases d <;> first | rfl | (cases hd)
end K16
end
section
set_option autoImplicit false
set_option linter.all false
set_option maxRecDepth 10000
open Mi
namespace K16
variable {rep : D → List Nat} {n : Nat} {h : AH} {w : Nat} {c : Int} {ss : List (Int × Int)}
theorem is_standing (hw : h[w]? = some (webO c ss)) {d : D} {b : Bool} (e : callD (pr rep) (n + 3) 3 [d, .int 0, .int ((ss.length : Int) - 1)] h = .ok (.bl b) h) : callD (pr rep) (n + 4) 10 [.ref w, d] h = .ok (.bl b) h := by
  refine call_rt (fn := P.d_is_standing) rfl rfl ?_
  simp [P.d_is_standing, P.b_is_standing, evSs, evS, evE, evEs, evPs, evB, evF, evI, evOB, evO, evV, startEnv, endFl, isOwn, ownI, bindT, bindTs, wipe, parOk, bindP, itD, need_web hw, hw, webO, flook, e]
theorem is_standing_web {o d : D} (ho : ask o = true) : callD (pr rep) (n + 4) 10 [o, d] h = .exc 4 o h := by
  refine call_exc (fn := P.d_is_standing) rfl rfl ?_
  simp [P.d_is_standing, P.b_is_standing, evSs, evS, evE, evEs, evPs, evB, evF, evI, evOB, evO, evV, startEnv, endFl, isOwn, ownI, bindT, bindTs, wipe, parOk, bindP, itD, need_web_no ho]
theorem need_standing (hw : h[w]? = some (webO c ss)) {d : D} (e : callD (pr rep) (n + 3) 3 [d, .int 0, .int ((ss.length : Int) - 1)] h = .ok (.bl true) h) : callD (pr rep) (n + 5) 11 [.ref w, d] h = .ok .non h := by
  refine call_nx (fn := P.d_need_standing) (en := [.v (.ref w), .v d]) rfl rfl ?_
  simp [P.d_need_standing, P.b_need_standing, evSs, evS, evE, evEs, evPs, evB, evF, evI, evOB, evO, evV, startEnv, endFl, isOwn, ownI, bindT, bindTs, wipe, parOk, bindP, itD, is_standing hw e]
theorem need_standing_no (hw : h[w]? = some (webO c ss)) {d : D} (e : callD (pr rep) (n + 3) 3 [d, .int 0, .int ((ss.length : Int) - 1)] h = .ok (.bl false) h) : callD (pr rep) (n + 5) 11 [.ref w, d] h = .exc 5 d h := by
  refine call_exc (fn := P.d_need_standing) rfl rfl ?_
  simp [P.d_need_standing, P.b_need_standing, evSs, evS, evE, evEs, evPs, evB, evF, evI, evOB, evO, evV, startEnv, endFl, isOwn, ownI, bindT, bindTs, wipe, parOk, bindP, itD, is_standing hw e]
theorem need_standing_web {o d : D} (ho : ask o = true) : callD (pr rep) (n + 5) 11 [o, d] h = .exc 4 o h := by
  refine call_exc (fn := P.d_need_standing) rfl rfl ?_
  simp [P.d_need_standing, P.b_need_standing, evSs, evS, evE, evEs, evPs, evB, evF, evI, evOB, evO, evV, startEnv, endFl, isOwn, ownI, bindT, bindTs, wipe, parOk, bindP, itD, is_standing_web ho]
/-- standings -/
def okT (ss : List (Int × Int)) (st : List Nat) : Prop := st.Pairwise (· < ·) ∧ ∀ k ∈ st, k < ss.length
theorem ups_of {xs : List Int} (h : xs.Pairwise (· < ·)) : ups xs = true := by
  unfold ups
  induction xs with
  | nil => rfl
  | cons x xs ih =>
    rw [List.pairwise_cons] at h
    cases xs with
    | nil => rfl
    | cons y ys =>
      have := ih h.2
      simp only [List.tail_cons, List.zip_cons_cons, List.all_cons] at this ⊢
      rw [this, decide_eq_true (h.1 y List.mem_cons_self)]
      rfl
theorem rising_st {st : List Nat} (hs : okT ss st) : callD (pr rep) (n + 3) 3 [.tup (st.map nI), .int 0, .int ((ss.length : Int) - 1)] h = .ok (.bl true) h := by
  rw [is_rising]
  · have e1 : (st.map nI).all (isW · 0 ((ss.length : Int) - 1)) = true := by
      rw [List.all_eq_true]
      intro d hd
      obtain ⟨k, hk, rfl⟩ := List.mem_map.mp hd
      have := hs.2 k hk
      simp [isW]
      omega
    have e2 : (st.map nI).map toI = st.map (fun k : Nat => (k : Int)) := by
      rw [List.map_map]
      rfl
    rw [isR, e1, e2, ups_of]
    · rfl
    · rw [List.pairwise_map]
      exact hs.1.imp fun h => by omega
  · intro d hd
    obtain ⟨k, _, rfl⟩ := List.mem_map.mp hd
    rfl
theorem st_need (hw : h[w]? = some (webO c ss)) {st : List Nat} (hs : okT ss st) : callD (pr rep) (n + 5) 11 [.ref w, .tup (st.map nI)] h = .ok .non h := need_standing hw (rising_st hs)
theorem open_coins (hw : h[w]? = some (webO c ss)) (hc : 0 ≤ c) (hcm : c ≤ 9) (hv : ∀ p ∈ ss, okS c p) {st : List Nat} (hs : okT ss st) :
    callD (pr rep) (n + 6) 12 [.ref w, .tup (st.map nI)] h = .ok (.tup ((opens c (allE ss st)).map .int)) h := by
  refine call_rt (fn := P.d_open_coins) rfl rfl ?_
  have cn := counts (rep := rep) (n := n + 3) hw hc hcm hv hs.2
  simp only [P.d_open_coins, P.b_open_coins]
  rw [ss_nx (en' := startEnv 4 [.ref w, .tup (st.map nI)]) (h' := h) (by simp [evSs, evS, evE, evEs, evPs, evB, evF, evI, evOB, evO, evV, startEnv, endFl, isOwn, ownI, bindT, bindTs, wipe, parOk, bindP, itD, st_need hw hs]), ss_rt]
  simp only [evS, evE, evPs]
  rw [lc_eq (xs := ((cnts c (allE ss st)).zipIdx.map fun p => D.tup [.int p.2, .int p.1], none)) (h' := h)]
  · rw [compL_map (mk := fun p : Int × Nat => D.tup [.int p.2, .int p.1]) (f := fun p => if 0 < p.1 then some (.int p.2) else none) rfl]
    · simp only [bind_ok, bi_tuple_lst, ofO_some]
      have : (cnts c (allE ss st)).zipIdx.filterMap (fun p => if 0 < p.1 then some (D.int p.2) else none) = (opens c (allE ss st)).map .int := by
        unfold opens
        rw [List.map_filterMap]
        congr 1
        funext p
        by_cases q : 0 < p.1 <;> simp [q]
      rw [this]
    · intro p hp
      by_cases q : 0 < p.1 <;> simp [lcStep, evSs, evS, evE, evEs, evPs, evB, evF, evI, evOB, evO, evV, startEnv, endFl, isOwn, ownI, bindT, bindTs, wipe, parOk, bindP, itD, q]
  · simp [evSs, evS, evE, evEs, evPs, evB, evF, evI, evOB, evO, evV, startEnv, endFl, isOwn, ownI, bindT, bindTs, wipe, parOk, bindP, itD, methF, hw, webO, cl0, mlook, flook, cn, enum_map]
end K16
end
section
set_option autoImplicit false
set_option linter.all false
set_option maxRecDepth 10000
open Mi
namespace K16
variable {rep : D → List Nat} {n : Nat} {h : AH} {w : Nat} {c : Int} {ss : List (Int × Int)}
/-! ### the table of links -/
theorem sd_inj {p q : Int × Int} (h : sd p = sd q) : p = q := by
  unfold sd at h
  simp at h
  exact Prod.ext h.1 h.2
theorem sd_keyOk (p : Int × Int) : (sd p).keyOk = true := by
  simp [sd, D.keyOk, D.flat, isTup, D.key, D.keys, D.depth, D.depths]
theorem kin_sd {ks : List D} (hk : ∀ k ∈ ks, ∃ p, k = sd p) (p : Int × Int) : kin ks (sd p) = true := by
  unfold kin
  rw [sd_keyOk, Bool.true_and, List.all_eq_true]
  intro k hm
  obtain ⟨q, rfl⟩ := hk k hm
  rfl
/-- the table at f -/
structure Tb (ks vs : List D) (m : Nat) (f : Int × Int → Nat) : Prop where
  len : ks.length = vs.length
  key : ∀ k ∈ ks, ∃ p, k = sd p
  few : ks.length ≤ m
  val : ∀ p, (dlook ks vs (sd p)).getD (.int 0) = nI (f p)
theorem dlook_put : ∀ {ks vs : List D} {k v x : D}, ks.length = vs.length → dlook (dput ks vs k v).1 (dput ks vs k v).2 x = if k = x then some v else dlook ks vs x
  | [], [], k, v, x, _ => by simp [dput, dlook]
  | a :: ks, b :: vs, k, v, x, hl => by
    unfold dput
    by_cases q : a = k
    · rw [if_pos q]
      subst q
      by_cases r : a = x <;> simp [dlook, r]
    · rw [if_neg q]
      have ih := dlook_put (ks := ks) (vs := vs) (k := k) (v := v) (x := x) (by simpa using hl)
      by_cases r : a = x
      · have : k ≠ x := fun z => q (r.trans z.symm)
        simp [dlook, r, this]
      · simp only [dlook, r, if_false, ih]
  | [], _ :: _, _, _, _, h => by simp at h
  | _ :: _, [], _, _, _, h => by simp at h
theorem dput_len : ∀ {ks vs : List D} {k v : D}, ks.length = vs.length → (dput ks vs k v).1.length = (dput ks vs k v).2.length ∧ (dput ks vs k v).1.length ≤ ks.length + 1 ∧ ∀ x ∈ (dput ks vs k v).1, x ∈ ks ∨ x = k
  | [], [], k, v, _ => by simp [dput]
  | a :: ks, b :: vs, k, v, hl => by
    unfold dput
    by_cases q : a = k
    · rw [if_pos q]
      exact ⟨by simpa using hl, by simp, fun x hx => .inl hx⟩
    · rw [if_neg q]
      obtain ⟨i1, i2, i3⟩ := dput_len (ks := ks) (vs := vs) (k := k) (v := v) (by simpa using hl)
      refine ⟨by simp [i1], by simp; omega, fun x hx => ?_⟩
      rcases List.mem_cons.mp hx with e | e
      · exact .inl (by rw [e]; exact List.mem_cons_self)
      · rcases i3 x e with z | z
        · exact .inl (List.mem_cons_of_mem _ z)
        · exact .inr z
  | [], _ :: _, _, _, h => by simp at h
  | _ :: _, [], _, _, h => by simp at h
theorem Tb.put {ks vs : List D} {m : Nat} {f : Int × Int → Nat} (t : Tb ks vs m f) (p : Int × Int) : Tb (dput ks vs (sd p) (nI (f p + 1))).1 (dput ks vs (sd p) (nI (f p + 1))).2 (m + 1) (fun q => if q = p then f q + 1 else f q) := by
  obtain ⟨i1, i2, i3⟩ := dput_len (k := sd p) (v := nI (f p + 1)) t.len
  refine ⟨i1, fun k hk => ?_, by have := t.few; omega, fun q => ?_⟩
  · rcases i3 k hk with z | z
    · exact t.key k z
    · exact ⟨p, z⟩
  · rw [dlook_put t.len]
    by_cases e : q = p
    · subst e
      simp
    · have : sd p ≠ sd q := fun z => e (sd_inj z).symm
      simp only [this, e, if_false]
      exact t.val q
def cnt (ss : List (Int × Int)) (st : List Nat) (p : Int × Int) : Nat := (st.filter fun k => ss.getD k (0, 0) = p).length
theorem links_step {k : Nat} (hw : h[w]? = some (webO c ss)) (hk : k < ss.length) {ks vs : List D} {m : Nat} {f : Int × Int → Nat} (t : Tb ks vs m f) (hm : m < most) {b : D} {x y : MSlot} {call : CallT} :
    ∃ x', forStep (pr rep) call (.v 3) P.l_links_0 (nI k) [.v (.ref w), .v b, .o (.dct ks vs), x, y] h =
      .ok (.nx [.v (.ref w), .v b, .o (.dct (dput ks vs (sd (ss.getD k (0, 0))) (nI (f (ss.getD k (0, 0)) + 1))).1 (dput ks vs (sd (ss.getD k (0, 0))) (nI (f (ss.getD k (0, 0)) + 1))).2), .v (nI k), x']) h := by
  have hp : ss[k]? = some (ss.getD k (0, 0)) := by rw [List.getD_eq_getElem?_getD, List.getElem?_eq_getElem hk]; rfl
  generalize ss.getD k (0, 0) = p at *
  refine ⟨.v (sd p), ?_⟩
  have kn := kin_sd t.key p
  have tv := t.val p
  have hl : ks.length < most := Nat.lt_of_le_of_lt t.few hm
  have ab : nI (f p + 1) = .int ((f p : Int) + 1) := by
    show D.int ((f p + 1 : Nat) : Int) = _
    rw [Int.natCast_add]
    rfl
  rw [ab]
  simp [forStep, evSs, evS, evE, evEs, evPs, evB, evF, evI, evOB, evO, evV, startEnv, endFl, isOwn, ownI, bindT, bindTs, wipe, parOk, bindP, itD, P.l_links_0, hw, webO, flook, hp, tagD, bmTag, bmD, bmV, kn, tv, objD, putO, hl, MObj.d]
theorem links (hw : h[w]? = some (webO c ss)) {st : List Nat} (hs : ∀ k ∈ st, k < ss.length) (hm : st.length < most) : ∃ ks vs m, Tb ks vs m (cnt ss st) ∧
    callD (pr rep) (n + 1) 13 [.ref w, .tup (st.map nI)] h = .ok (.dct ks vs) h := by
  have loop : ∀ (st : List Nat) (ks vs : List D) (m : Nat) (f : Int × Int → Nat) (x y : MSlot) (b : D), (∀ k ∈ st, k < ss.length) → Tb ks vs m f → m + st.length < most → ∃ ks' vs' m' x' y', Tb ks' vs' m' (fun p => f p + cnt ss st p) ∧
      forL (same none h) (forStep (pr rep) (callD (pr rep) n) (.v 3) P.l_links_0) (st.map nI) [.v (.ref w), .v b, .o (.dct ks vs), x, y] h = .ok (.nx [.v (.ref w), .v b, .o (.dct ks' vs'), x', y']) h := by
    intro st
    induction st with
    | nil => intro ks vs m f x y b _ t _; exact ⟨ks, vs, m, x, y, by simpa [cnt] using t, rfl⟩
    | cons k st ih =>
      intro ks vs m f x y b hs t hm
      have hk := hs k List.mem_cons_self
      rw [List.length_cons] at hm
      obtain ⟨x1, e⟩ := links_step (rep := rep) (call := callD (pr rep) n) hw hk t (by omega) (b := b) (x := x) (y := y)
      obtain ⟨ks', vs', m', x', y', t', e'⟩ := ih _ _ (m + 1) _ (.v (nI k)) x1 b (fun j hj => hs j (List.mem_cons_of_mem _ hj)) (t.put (ss.getD k (0, 0))) (by omega)
      refine ⟨ks', vs', m', x', y', ?_, ?_⟩
      · refine ⟨t'.len, t'.key, t'.few, fun p => ?_⟩
        rw [t'.val p]
        unfold cnt
        by_cases q : p = ss.getD k (0, 0)
        · subst q
          rw [if_pos rfl, List.filter_cons, if_pos (decide_eq_true rfl), List.length_cons]
          exact congrArg nI (by omega)
        · have : ¬ (ss.getD k (0, 0) = p) := fun z => q z.symm
          rw [if_neg q, List.filter_cons, if_neg (by rw [decide_eq_false this]; simp)]
      · rw [List.map_cons, forL, e]
        simp only [same_none, if_true, e']
  obtain ⟨ks, vs, m, x, y, t, e⟩ := loop st [] [] 0 (fun _ => 0) .un .un (.tup (st.map nI)) hs ⟨rfl, (fun k hk => by cases hk), Nat.le_refl _, fun _ => rfl⟩ (by omega)
  refine ⟨ks, vs, m, by simpa using t, ?_⟩
  refine call_rt (fn := P.d_links) rfl rfl ?_
  show evSs (pr rep) (callD (pr rep) n) P.b_links [.v (.ref w), .v (.tup (st.map nI)), .un, .un, .un] h = _
  unfold P.b_links
  rw [ss_nx (en' := [.v (.ref w), .v (.tup (st.map nI)), .o (.dct [] []), .un, .un]) (h' := h), ss_nx (en' := [.v (.ref w), .v (.tup (st.map nI)), .o (.dct ks vs), x, y]) (h' := h)]
  · simp [evSs, evS, evE, evEs, evPs, evB, evF, evI, evOB, evO, evV, startEnv, endFl, isOwn, ownI, bindT, bindTs, wipe, parOk, bindP, itD]
  · rw [for_eq (xs := (st.map nI, none)) (h' := h) rfl (by simp [evSs, evS, evE, evEs, evPs, evB, evF, evI, evOB, evO, evV, startEnv, endFl, isOwn, ownI, bindT, bindTs, wipe, parOk, bindP, itD])]
    exact e
  · simp [evSs, evS, evE, evEs, evPs, evB, evF, evI, evOB, evO, evV, startEnv, endFl, isOwn, ownI, bindT, bindTs, wipe, parOk, bindP, itD]
/-- the key of two coins -/
def key (a o : Int) : Int × Int := if o = -1 then (a, -1) else (min a o, max a o)
theorem linked {ks vs : List D} {m : Nat} {f : Int × Int → Nat} (t : Tb ks vs m f) (a o : Int) : callD (pr rep) (n + 1) 14 [.dct ks vs, .int a, .int o] h = .ok (nI (f (key a o))) h := by
  refine call_rt (fn := P.d_linked) rfl rfl ?_
  have k1 := kin_sd t.key (a, -1)
  have v1 := t.val (a, -1)
  have k2 := kin_sd t.key (min a o, max a o)
  have v2 := t.val (min a o, max a o)
  have mn : (if o < a then o else a) = min a o := by split <;> omega
  have mx : (if a < o then o else a) = max a o := by split <;> omega
  unfold sd at k1 v1 k2 v2
  dsimp only at k1 v1 k2 v2
  by_cases q : o = -1
  · simp [P.d_linked, P.b_linked, evSs, evS, evE, evEs, evPs, evB, evF, evI, evOB, evO, evV, startEnv, endFl, isOwn, ownI, bindT, bindTs, wipe, parOk, bindP, itD, P.c_GROUND, q, tagD, bmTag, bmD, bmV, k1, v1, key]
  · simp [P.d_linked, P.b_linked, evSs, evS, evE, evEs, evPs, evB, evF, evI, evOB, evO, evV, startEnv, endFl, isOwn, ownI, bindT, bindTs, wipe, parOk, bindP, itD, P.c_GROUND, q, tagD, bmTag, bmD, bmV, biD, mn, mx, k2, v2, key]
end K16
end
section
set_option autoImplicit false
set_option linter.all false
set_option maxRecDepth 10000
open Mi
namespace K16
variable {rep : D → List Nat} {n : Nat} {h : AH} {w : Nat} {c : Int} {ss : List (Int × Int)}
/-! ### codes -/
def rowOf (f : Int × Int → Nat) (o : List Int) (i : Nat) (a : Int) : List Nat := (-1 :: o.take i).map fun b => f (key a b)
def codeD (f : Int × Int → Nat) (o : List Int) : D := .tup (o.zipIdx.map fun p => .tup ((rowOf f o p.2 p.1).map nI))
theorem row_behind {ks vs : List D} {m : Nat} {f : Int × Int → Nat} (t : Tb ks vs m f) (bs : List Int) (hb : bs.length < most) (a : Int) :
    callD (pr rep) (n + 2) 15 [.dct ks vs, .lst (bs.map .int), .int a] h = .ok (.tup (((-1 :: bs).map fun b => f (key a b)).map nI)) h := by
  refine call_rt (fn := P.d_row_behind) rfl rfl ?_
  simp only [P.d_row_behind, P.b_row_behind]
  rw [ss_rt]
  simp only [evS, evE, evPs]
  rw [lc_eq (xs := ((-1 :: bs).map .int, none)) (h' := h)]
  · rw [compL_map (mk := D.int) (f := fun b => some (nI (f (key a b)))) rfl]
    · simp [evSs, evS, evE, evEs, evPs, evB, evF, evI, evOB, evO, evV, startEnv, endFl, isOwn, ownI, bindT, bindTs, wipe, parOk, bindP, itD, filterMap_map, Function.comp_def]
    · intro b _
      simp [lcStep, evSs, evS, evE, evEs, evPs, evB, evF, evI, evOB, evO, evV, startEnv, endFl, isOwn, ownI, bindT, bindTs, wipe, parOk, bindP, itD, linked t]
  · have : 1 + bs.length ≤ most := by omega
    simp [evSs, evS, evE, evEs, evPs, evB, evF, evI, evOB, evO, evV, startEnv, endFl, isOwn, ownI, bindT, bindTs, wipe, parOk, bindP, itD, P.c_GROUND, binF, this]
theorem code_rows {ks vs : List D} {m : Nat} {f : Int × Int → Nat} (t : Tb ks vs m f) (o : List Int) (ho : o.length < most) : callD (pr rep) (n + 3) 16 [.dct ks vs, .tup (o.map .int)] h = .ok (codeD f o) h := by
  refine call_rt (fn := P.d_code_rows) rfl rfl ?_
  simp only [P.d_code_rows, P.b_code_rows]
  rw [ss_rt]
  simp only [evS, evE, evPs]
  rw [lc_eq (xs := (o.zipIdx.map fun p => D.tup [.int p.2, .int p.1], none)) (h' := h)]
  · rw [compL_map (mk := fun p : Int × Nat => D.tup [.int p.2, .int p.1]) (f := fun p => some (.tup ((rowOf f o p.2 p.1).map nI))) rfl]
    · simp [evSs, evS, evE, evEs, evPs, evB, evF, evI, evOB, evO, evV, startEnv, endFl, isOwn, ownI, bindT, bindTs, wipe, parOk, bindP, itD, filterMap_map, codeD]
    · intro p hp
      have hi := (List.mem_zipIdx hp).2.1
      have hl : (o.take p.2).length < most := by rw [List.length_take]; omega
      have e := row_behind (rep := rep) (n := n) (h := h) t (o.take p.2) hl p.1
      have c1 : cut (o.map D.int) none (some (p.2 : Int)) = (o.take p.2).map .int := by
        rw [cutTo _ _ (by rw [List.length_map]; omega), List.map_take]
      rw [List.map_take] at c1
      rw [show (o.take p.2).map D.int = (o.map D.int).take p.2 from List.map_take ..] at e
      simp [lcStep, evSs, evS, evE, evEs, evPs, evB, evF, evI, evOB, evO, evV, startEnv, endFl, isOwn, ownI, bindT, bindTs, wipe, parOk, bindP, itD, slD, c1, e, rowOf]
  · simp [evSs, evS, evE, evEs, evPs, evB, evF, evI, evOB, evO, evV, startEnv, endFl, isOwn, ownI, bindT, bindTs, wipe, parOk, bindP, itD, enum_map]
theorem code_of (hw : h[w]? = some (webO c ss)) (hc : 0 ≤ c) (hcm : c ≤ 9) (hv : ∀ p ∈ ss, okS c p) {st : List Nat} (hs : okT ss st) (hm : st.length < most) {o : List Int} (ho : o.length < most)
    (hp : sortI o = sortI (opens c (allE ss st))) : callD (pr rep) (n + 7) 17 [.ref w, .tup (st.map nI), .tup (o.map .int)] h = .ok (codeD (cnt ss st) o) h := by
  refine call_rt (fn := P.d_code_of) rfl rfl ?_
  have oc := open_coins (rep := rep) (n := n) hw hc hcm hv hs
  have io := is_order (rep := rep) (n := n + 4) (h := h) (o.map .int) (opens c (allE ss st)) ask_int
  obtain ⟨ks, vs, m, t, el⟩ := links (rep := rep) (n := n + 5) hw hs.2 hm
  have ec := code_rows (rep := rep) (n := n + 3) (h := h) t o ho
  have ai : ∀ x ∈ o, isI (.int x) = true := fun _ _ => rfl
  have ai2 : (o.map D.int).all isI = true := by
    rw [List.all_eq_true]
    intro d hd
    obtain ⟨x, _, rfl⟩ := List.mem_map.mp hd
    rfl
  have tm : (o.map D.int).map toI = o := by
    rw [List.map_map]
    exact List.map_id _
  rw [ai2, tm, hp, decide_eq_true rfl] at io
  simp [P.d_code_of, P.b_code_of, evSs, evS, evE, evEs, evPs, evB, evF, evI, evOB, evO, evV, startEnv, endFl, isOwn, ownI, bindT, bindTs, wipe, parOk, bindP, itD, st_need hw hs, oc, io, el, ec]
/-- no order of these coins -/
def noOrd (c : Int) (es : List Int) (d : D) : Prop := isT d = false ∨ ∃ ds, d = .tup ds ∧ (∀ x ∈ ds, ask x = true) ∧ (ds.all isI && decide (sortI (ds.map toI) = sortI (opens c es))) = false
theorem code_of_no (hw : h[w]? = some (webO c ss)) (hc : 0 ≤ c) (hcm : c ≤ 9) (hv : ∀ p ∈ ss, okS c p) {st : List Nat} (hs : okT ss st) {d : D} (hd : ask d = true)
    (hn : noOrd c (allE ss st) d) : callD (pr rep) (n + 7) 17 [.ref w, .tup (st.map nI), d] h = .exc 6 d h := by
  refine call_exc (fn := P.d_code_of) rfl rfl ?_
  have oc := open_coins (rep := rep) (n := n) hw hc hcm hv hs
  have io : callD (pr rep) (n + 6) 4 [d, .tup ((opens c (allE ss st)).map .int)] h = .ok (.bl false) h := by
    rcases hn with hn | ⟨ds, rfl, h1, h2⟩
    · exact is_order_no (n := n + 4) d _ hd hn
    · rw [is_order (n := n + 4) ds _ h1, h2]
  simp [P.d_code_of, P.b_code_of, evSs, evS, evE, evEs, evPs, evB, evF, evI, evOB, evO, evV, startEnv, endFl, isOwn, ownI, bindT, bindTs, wipe, parOk, bindP, itD, st_need hw hs, oc, io]
theorem code_of_st (hw : h[w]? = some (webO c ss)) {d x : D} (e : callD (pr rep) (n + 4) 3 [d, .int 0, .int ((ss.length : Int) - 1)] h = .ok (.bl false) h) : callD (pr rep) (n + 7) 17 [.ref w, d, x] h = .exc 5 d h := by
  refine call_exc (fn := P.d_code_of) rfl rfl ?_
  have := need_standing_no (rep := rep) (n := n + 1) hw e
  simp [P.d_code_of, P.b_code_of, evSs, evS, evE, evEs, evPs, evB, evF, evI, evOB, evO, evV, startEnv, endFl, isOwn, ownI, bindT, bindTs, wipe, parOk, bindP, itD, this]
theorem code_of_web {o d x : D} (ho : ask o = true) : callD (pr rep) (n + 7) 17 [o, d, x] h = .exc 4 o h := by
  refine call_exc (fn := P.d_code_of) rfl rfl ?_
  have := need_standing_web (rep := rep) (n := n + 1) (h := h) (d := d) ho
  simp [P.d_code_of, P.b_code_of, evSs, evS, evE, evEs, evPs, evB, evF, evI, evOB, evO, evV, startEnv, endFl, isOwn, ownI, bindT, bindTs, wipe, parOk, bindP, itD, this]
end K16
end
section
set_option autoImplicit false
set_option linter.all false
set_option maxRecDepth 10000
open Mi
namespace K16
variable {rep : D → List Nat} {n : Nat} {h : AH} {w r : Nat} {c : Int} {ss : List (Int × Int)}
/-! ### draws -/
def rowO (ns : List Int) (i s t : Int) : MObj := .lst [.lst (ns.map .int), .int i, .int s, .int t]
theorem mul48 (s : Int) : binD .mul (.int s) (.int 48271) = some (.int (s * 48271)) := by simp [binD, big]
theorem mod_pos {a m : Int} (hm : 1 ≤ m) : binD .mod (.int a) (.int m) = some (.int (a.fmod m)) := by
  have : m ≠ 0 := by omega
  simp [binD, this]
theorem fdiv_pos {a m : Int} (hm : 1 ≤ m) (hb : m < 1073741824) : binD .fdiv (.int a) (.int m) = some (.int (a.fdiv m)) := by
  have : m ≠ 0 := by omega
  have h2 : m.natAbs < 1073741824 := by omega
  simp [binD, this, h2]
theorem pow18 : binD .pow (.int 10) (.int 18) = some (.int 1000000000000000000) := by
  simp [binD, big]
theorem fmod_in {a m : Int} (hm : 1 ≤ m) : 0 ≤ a.fmod m ∧ a.fmod m < m := ⟨Int.fmod_nonneg_of_pos a (by omega), Int.fmod_lt_of_pos a (by omega)⟩
theorem ix_ref {xs : List D} (hr : h[r]? = some (.lst xs)) (k : Nat) : ixD (.ref r) (.int (k : Int)) h = xs[k]? := by
  have e1 : asD (.ref r) h = none := by simp [asD, hr]
  have e2 : asS (.ref r) h = some xs := by simp [asS, asL, hr]
  simp only [ixD, e1, e2, place_nat]
  by_cases q : k < xs.length
  · simp [q]
  · simp [q]
theorem rset (hr : r < h.length) (o : MObj) : (h.set r o)[r]? = some o := List.getElem?_set_self hr
theorem taken {ns : List Int} {i s t m : Int} (hr : h[r]? = some (rowO ns i s t)) (hi : 0 ≤ i) (hm : 1 ≤ m) (hb : m < 1073741824) :
    ∃ v i' s' t', 0 ≤ v ∧ v < m ∧ 0 ≤ i' ∧ callD (pr rep) (n + 1) 18 [.ref r, .int m] h = .ok (.int v) (h.set r (rowO ns i' s' t')) := by
  have hlt : r < h.length := (List.getElem?_eq_some_iff.mp hr).1
  have s1 := rset hlt
  have x0 : ∀ (h : AH) (xs : List D), h[r]? = some (.lst xs) → ixD (.ref r) (.int 0) h = xs[0]? := fun h xs e => ix_ref e 0
  have x1 : ∀ (h : AH) (xs : List D), h[r]? = some (.lst xs) → ixD (.ref r) (.int 1) h = xs[1]? := fun h xs e => ix_ref e 1
  have x2 : ∀ (h : AH) (xs : List D), h[r]? = some (.lst xs) → ixD (.ref r) (.int 2) h = xs[2]? := fun h xs e => ix_ref e 2
  have x3 : ∀ (h : AH) (xs : List D), h[r]? = some (.lst xs) → ixD (.ref r) (.int 3) h = xs[3]? := fun h xs e => ix_ref e 3
  have p7 : (1 : Int) ≤ 7 := by decide
  have pM : (1 : Int) ≤ 2147483647 := by decide
  unfold rowO at hr
  by_cases q3 : 0 < t
  · refine ⟨t.fmod m, i, s, t.fdiv m, (fmod_in hm).1, (fmod_in hm).2, hi, ?_⟩
    refine call_rt (fn := P.d__law_taken) rfl rfl ?_
    simp [P.d__law_taken, P.b__law_taken, evSs, evS, evE, evEs, evPs, evB, evF, evI, evOB, evO, evV, startEnv, endFl, isOwn, ownI, bindT, bindTs, wipe, parOk, bindP, itD, x3 _ _ hr, q3, mod_pos hm, fdiv_pos hm hb, hr, putO, place, rowO]
  · by_cases q1 : (ns.length : Int) < i + 1
    · refine ⟨((s * 48271 + 11).fmod 2147483647).fdiv 7 |>.fmod m, i + 1, (s * 48271 + 11).fmod 2147483647, t, (fmod_in hm).1, (fmod_in hm).2, by omega, ?_⟩
      refine call_rt (fn := P.d__law_taken) rfl rfl ?_
      simp [P.d__law_taken, P.b__law_taken, evSs, evS, evE, evEs, evPs, evB, evF, evI, evOB, evO, evV, startEnv, endFl, isOwn, ownI, bindT, bindTs, wipe, parOk, bindP, itD, x3 _ _ hr, q3, x1 _ _ hr, hr, putO, place, x1 _ _ (s1 _), x0 _ _ (s1 _), x2 _ _ (s1 _), q1, s1, mul48, mod_pos hm, mod_pos pM, fdiv_pos p7 (by decide : (7 : Int) < 1073741824), rowO]
    · have e : (ns.map D.int)[i.toNat]? = some (.int (ns[i.toNat]?.getD 0)) := by
        rw [List.getElem?_map, List.getElem?_eq_getElem (by omega)]
        rfl
      have ci : ixD (.lst (ns.map D.int)) (.int i) = fun _ => some (.int (ns[i.toNat]?.getD 0)) := by
        funext h
        rw [ix_lst_int _ _ hi, e]
      generalize ns[i.toNat]?.getD 0 = cell at *
      by_cases q2 : (1000000000000000000 : Int) ≤ cell
      · refine ⟨cell.fmod m, i + 1, (s * 48271 + cell + 11).fmod 2147483647, cell.fdiv m, (fmod_in hm).1, (fmod_in hm).2, by omega, ?_⟩
        refine call_rt (fn := P.d__law_taken) rfl rfl ?_
        simp [P.d__law_taken, P.b__law_taken, evSs, evS, evE, evEs, evPs, evB, evF, evI, evOB, evO, evV, startEnv, endFl, isOwn, ownI, bindT, bindTs, wipe, parOk, bindP, itD, x3 _ _ hr, q3, x1 _ _ hr, hr, putO, place, x1 _ _ (s1 _), x0 _ _ (s1 _), x2 _ _ (s1 _), q1, s1, mul48, mod_pos hm, mod_pos pM, fdiv_pos hm hb, ci, pow18, q2, rowO]
      · refine ⟨cell.fmod m, i + 1, (s * 48271 + cell + 11).fmod 2147483647, t, (fmod_in hm).1, (fmod_in hm).2, by omega, ?_⟩
        refine call_rt (fn := P.d__law_taken) rfl rfl ?_
        simp [P.d__law_taken, P.b__law_taken, evSs, evS, evE, evEs, evPs, evB, evF, evI, evOB, evO, evV, startEnv, endFl, isOwn, ownI, bindT, bindTs, wipe, parOk, bindP, itD, x3 _ _ hr, q3, x1 _ _ hr, hr, putO, place, x1 _ _ (s1 _), x0 _ _ (s1 _), x2 _ _ (s1 _), q1, s1, mul48, mod_pos hm, mod_pos pM, fdiv_pos hm hb, ci, pow18, q2, rowO]
/-- the row's object, any numbers in it -/
def Row (ns : List Int) (r : Nat) (h : AH) : Prop := ∃ i s t, h[r]? = some (rowO ns i s t) ∧ 0 ≤ i
/-- all but the row stays -/
def Stay (r : Nat) (h h' : AH) : Prop := h'.length = h.length ∧ ∀ k, k ≠ r → h'[k]? = h[k]?
theorem Stay.refl (r : Nat) (h : AH) : Stay r h h := ⟨rfl, fun _ _ => rfl⟩
theorem Stay.trans {h1 h2 h3 : AH} (a : Stay r h1 h2) (b : Stay r h2 h3) : Stay r h1 h3 := ⟨b.1.trans a.1, fun k hk => (b.2 k hk).trans (a.2 k hk)⟩
theorem take1 {ns : List Int} {m : Int} (hr : Row ns r h) (hm : 1 ≤ m) (hb : m < 1073741824) : ∃ v h', 0 ≤ v ∧ v < m ∧ Row ns r h' ∧ Stay r h h' ∧ callD (pr rep) (n + 1) 18 [.ref r, .int m] h = .ok (.int v) h' := by
  obtain ⟨i, s, t, e, hi⟩ := hr
  obtain ⟨v, i', s', t', h1, h2, h3, h4⟩ := taken (rep := rep) (n := n) e hi hm hb
  have hlt : r < h.length := (List.getElem?_eq_some_iff.mp e).1
  exact ⟨v, _, h1, h2, ⟨i', s', t', rset hlt _, h3⟩, ⟨List.length_set, fun k hk => List.getElem?_set_ne (Ne.symm hk)⟩, h4⟩
/-- one of some things -/
theorem pick {ns : List Int} {xs : List D} (hr : Row ns r h) (hx : xs ≠ []) (hl : xs.length < 1000) : ∃ d h', d ∈ xs ∧ Row ns r h' ∧ Stay r h h' ∧ callD (pr rep) (n + 2) 19 [.ref r, .lst xs] h = .ok d h' := by
  have h1 : 1 ≤ xs.length := by
    cases xs with
    | nil => exact absurd rfl hx
    | cons _ _ => simp
  obtain ⟨v, h', h0, hv, hr', st, e⟩ := take1 (rep := rep) (n := n) hr (m := (xs.length : Int)) (by omega) (by omega)
  have hi : v.toNat < xs.length := by omega
  refine ⟨xs[v.toNat], h', List.getElem_mem hi, hr', st, ?_⟩
  refine call_rt (fn := P.d__law_pick) rfl rfl ?_
  simp [P.d__law_pick, P.b__law_pick, evSs, evS, evE, evEs, evPs, evB, evF, evI, evOB, evO, evV, startEnv, endFl, isOwn, ownI, bindT, bindTs, wipe, parOk, bindP, itD, e, ix_lst_int _ _ h0, List.getElem?_eq_getElem hi]
theorem draw_string {ns : List Int} (hr : Row ns r h) (hc : 1 ≤ c) (hc9 : c ≤ 9) : ∃ p h', okS c p ∧ Row ns r h' ∧ Stay r h h' ∧ callD (pr rep) (n + 2) 21 [.ref r, .int c] h = .ok (sd p) h' := by
  obtain ⟨a, h1, a0, a1, r1, st1, e1⟩ := take1 (rep := rep) (n := n) hr (m := c) hc (by omega)
  obtain ⟨b, h2, b0, b1, r2, st2, e2⟩ := take1 (rep := rep) (n := n) r1 (m := c + 2) (by omega) (by omega)
  have mn : (if b < a then b else a) = min a b := by split <;> omega
  have mx : (if a < b then b else a) = max a b := by split <;> omega
  by_cases q : c ≤ b ∨ b = a
  · refine ⟨(a, -1), h2, ⟨a0, a1, .inr rfl⟩, r2, st1.trans st2, ?_⟩
    refine call_rt (fn := P.d__law_string) rfl rfl ?_
    by_cases q1 : c ≤ b
    · simp [P.d__law_string, P.b__law_string, evSs, evS, evE, evEs, evPs, evB, evF, evI, evOB, evO, evV, startEnv, endFl, isOwn, ownI, bindT, bindTs, wipe, parOk, bindP, itD, e1, e2, q1, sd]
    · have q2 : b = a := by rcases q with q | q; exact absurd q q1; exact q
      subst q2
      simp [P.d__law_string, P.b__law_string, evSs, evS, evE, evEs, evPs, evB, evF, evI, evOB, evO, evV, startEnv, endFl, isOwn, ownI, bindT, bindTs, wipe, parOk, bindP, itD, e1, e2, q1, sd]
  · have q1 : ¬ c ≤ b := fun z => q (.inl z)
    have q2 : ¬ b = a := fun z => q (.inr z)
    refine ⟨(min a b, max a b), h2, ⟨by omega, by omega, .inl ⟨by omega, by omega⟩⟩, r2, st1.trans st2, ?_⟩
    refine call_rt (fn := P.d__law_string) rfl rfl ?_
    simp [P.d__law_string, P.b__law_string, evSs, evS, evE, evEs, evPs, evB, evF, evI, evOB, evO, evV, startEnv, endFl, isOwn, ownI, bindT, bindTs, wipe, parOk, bindP, itD, e1, e2, q1, q2, biD, mn, mx, sd]
theorem draw_strings {ns : List Int} (hr : Row ns r h) (hc : 1 ≤ c) (hc9 : c ≤ 9) : ∃ ss h', ss ≠ [] ∧ ss.length ≤ 8 ∧ (∀ p ∈ ss, okS c p) ∧ Row ns r h' ∧ Stay r h h' ∧ callD (pr rep) (n + 3) 22 [.ref r, .int c, .int 8] h = .ok (.lst (ss.map sd)) h' := by
  obtain ⟨v, h1, v0, v1, r1, st1, e1⟩ := take1 (rep := rep) (n := n + 1) hr (m := 8) (by omega) (by omega)
  have hw : wide (1 + v) = true := by
    unfold wide
    simp
    omega
  have hn : (1 + v).toNat ≤ most := by
    unfold most
    omega
  have ln : (rangeL 0 (1 + v).toNat 1).length = (1 + v).toNat := by simp [rangeL]
  obtain ⟨rs, h2, e2, l, e3, i1, i2, i3, i4⟩ := compL_rel (g := same none h1) (step := lcStep (pr rep) (callD (pr rep) (n + 2)) [3] (.v 3) none (.call 21 (.cons (.v 0) (.cons (.v 1) .nil))) [.v (.ref r), .v (.int c), .v (.int 8), .un])
    (fun rest acc h' => ∃ l : List (Int × Int), acc = l.map sd ∧ (∀ p ∈ l, okS c p) ∧ Row ns r h' ∧ Stay r h h' ∧ l.length + rest.length = (1 + v).toNat)
    (fun x rest acc h' hI => by
      obtain ⟨l, rfl, a1, a2, a3, a4⟩ := hI
      obtain ⟨p, h3, b1, b2, b3, b4⟩ := draw_string (rep := rep) (n := n) a2 hc hc9
      refine ⟨some (sd p), h3, ?_, rfl, l ++ [p], by simp, fun q hq => ?_, b2, a3.trans b3, ?_⟩
      · simp [lcStep, evSs, evS, evE, evEs, evPs, evB, evF, evI, evOB, evO, evV, startEnv, endFl, isOwn, ownI, bindT, bindTs, wipe, parOk, bindP, itD, b4]
      · rcases List.mem_append.mp hq with z | z
        · exact a1 q z
        · rw [List.mem_singleton.mp z]; exact b1
      · simp at a4 ⊢
        omega)
    (xs := rangeL 0 (1 + v).toNat 1) (acc := []) (h := h1) ⟨[], rfl, fun p hp => (by cases hp), r1, st1, by simp [ln]⟩
  rw [List.nil_append] at e3
  subst e3
  refine ⟨l, h2, ?_, ?_, i1, i2, i3, ?_⟩
  · intro z
    subst z
    simp at i4
    omega
  · simp at i4
    omega
  · refine call_rt (fn := P.d__law_strings) rfl rfl ?_
    simp only [P.d__law_strings, P.b__law_strings]
    rw [ss_rt]
    simp only [evS, evE]
    rw [lc_eq (xs := (rangeL 0 (1 + v).toNat 1, none)) (h' := h1)]
    · have : startEnv 4 [.ref r, .int c, .int 8] = [.v (.ref r), .v (.int c), .v (.int 8), .un] := rfl
      rw [this, e2]
      rfl
    · have hn2 : 1 + v ≤ (most : Int) := by
        unfold most
        omega
      simp [evSs, evS, evE, evEs, evPs, evB, evF, evI, evOB, evO, evV, startEnv, endFl, isOwn, ownI, bindT, bindTs, wipe, parOk, bindP, itD, e1, hw, hn2]
/-! ### orders -/
theorem range_nI (n : Nat) : rangeL 0 n 1 = (List.range n).map nI := by
  unfold rangeL
  apply List.map_congr_left
  intro i _
  simp
theorem numbers {m many : Int} (hm : 0 ≤ many) (h8 : many ≤ 12) : ∃ st : List Nat, st.Pairwise (· < ·) ∧ (∀ k ∈ st, k < many.toNat) ∧ callD (pr rep) (n + 1) 23 [.int m, .int many] h = .ok (.tup (st.map nI)) h := by
  have hw : wide many = true := by
    unfold wide
    simp
    omega
  have hn : many.toNat ≤ most := by unfold most; omega
  refine ⟨(List.range many.toNat).filter fun k => decide ((m / 2 ^ k).fmod 2 = 1), List.Pairwise.filter _ List.pairwise_lt_range, fun k hk => List.mem_range.mp (List.mem_filter.mp hk).1, ?_⟩
  refine call_rt (fn := P.d__law_numbers) rfl rfl ?_
  simp only [P.d__law_numbers, P.b__law_numbers]
  rw [ss_rt]
  simp only [evS, evE, evPs]
  rw [lc_eq (xs := ((List.range many.toNat).map nI, none)) (h' := h)]
  · rw [compL_map (mk := nI) (f := fun k => if (m / 2 ^ k).fmod 2 = 1 then some (nI k) else none) rfl]
    · have : (List.range many.toNat).filterMap (fun k => if (m / 2 ^ k).fmod 2 = 1 then some (nI k) else none) = ((List.range many.toNat).filter fun k => decide ((m / 2 ^ k).fmod 2 = 1)).map nI := by
        rw [← List.filterMap_eq_map, List.filterMap_filter]
        congr 1
        funext k
        by_cases q : (m / 2 ^ k).fmod 2 = 1 <;> simp [q]
      rw [this]
      simp
    · intro k _
      by_cases q : (m / 2 ^ k).fmod 2 = 1 <;> simp [lcStep, evSs, evS, evE, evEs, evPs, evB, evF, evI, evOB, evO, evV, startEnv, endFl, isOwn, ownI, bindT, bindTs, wipe, parOk, bindP, itD, binD, q]
  · have hn2 : many ≤ (most : Int) := by
      unfold most
      omega
    simp [evSs, evS, evE, evEs, evPs, evB, evF, evI, evOB, evO, evV, startEnv, endFl, isOwn, ownI, bindT, bindTs, wipe, parOk, bindP, itD, hw, hn2, range_nI]
/-- tuple(range(many)) in the law -/
theorem law_ends {st : List Nat} (hs : ∀ k ∈ st, k < ss.length) (hv : ∀ p ∈ ss, okS c p) (hm : st.length ≤ 12) : callD (pr rep) (n + 1) 26 [.lst (ss.map sd), .tup (st.map nI)] h = .ok (.lst ((allE ss st).map .int)) h := by
  have loop : ∀ (st : List Nat) (acc : List Int) (x y : MSlot) (b : D), (∀ k ∈ st, k < ss.length) → acc.length + 2 * st.length ≤ 100 → ∃ x', forL (same none h) (forStep (pr rep) (callD (pr rep) n) (.v 3) P.l__law_ends_0) (st.map nI) [.v (.lst (ss.map sd)), .v b, .v (.lst (acc.map .int)), x, y] h =
      .ok (.nx [.v (.lst (ss.map sd)), .v b, .v (.lst ((acc ++ allE ss st).map .int)), x', y]) h := by
    intro st
    induction st with
    | nil => intro acc x y b _ _; exact ⟨x, by simp [forL, allE]⟩
    | cons k st ih =>
      intro acc x y b hs hl
      have hk := hs k List.mem_cons_self
      obtain ⟨p, hp⟩ : ∃ p, ss[k]? = some p := ⟨_, List.getElem?_eq_getElem hk⟩
      have okp := hv _ (List.mem_of_getElem? hp)
      have e1 : ends1 ss k = epts p := by
        unfold ends1
        rw [List.getD_eq_getElem?_getD, hp]
        rfl
      have el : (ends1 ss k).length ≤ 2 := by
        unfold ends1 epts
        exact List.length_filter_le _ _
      rw [List.length_cons] at hl
      obtain ⟨x', e⟩ := ih (acc ++ ends1 ss k) (.v (nI k)) y b (fun j hj => hs j (List.mem_cons_of_mem _ hj)) (by rw [List.length_append]; omega)
      refine ⟨x', ?_⟩
      have s1 : forStep (pr rep) (callD (pr rep) n) (.v 3) P.l__law_ends_0 (nI k) [.v (.lst (ss.map sd)), .v b, .v (.lst (acc.map .int)), x, y] h = .ok (.nx [.v (.lst (ss.map sd)), .v b, .v (.lst ((acc ++ ends1 ss k).map .int)), .v (nI k), y]) h := by
        have lc : evF (pr rep) (callD (pr rep) n) (.lc [4] (.v 4) (.e (.ix (.v 0) (.v 3))) (some (.e (.cmp .ge (.v 4) (.c (.int 0))))) (.v 4)) [.v (.lst (ss.map sd)), .v b, .v (.lst (acc.map .int)), .v (nI k), y] h = .ok (.lst ((ends1 ss k).map .int)) h := by
          have e : evI (pr rep) (callD (pr rep) n) (.e (.ix (.v 0) (.v 3))) [.v (.lst (ss.map sd)), .v b, .v (.lst (acc.map .int)), .v (nI k), y] h = .ok (([p.1, p.2]).map .int, none) h := by
            simp [evSs, evS, evE, evEs, evPs, evB, evF, evI, evOB, evO, evV, startEnv, endFl, isOwn, ownI, bindT, bindTs, wipe, parOk, bindP, itD, hp, sd]
          rw [lc_eq e, compL_map (mk := D.int) (f := fun i => if 0 ≤ i then some (.int i) else none) rfl]
          · have : [p.1, p.2].filterMap (fun i => if 0 ≤ i then some (D.int i) else none) = (ends1 ss k).map .int := by
              obtain ⟨o1, o2, o3⟩ := okp
              rw [e1]
              unfold epts
              have n1 : ¬ p.1 = -1 := by omega
              rcases o3 with ⟨o3, o4⟩ | o3
              · have n2 : ¬ p.2 = -1 := by omega
                have n3 : (0 : Int) ≤ p.2 := by omega
                simp [o1, n1, n2, n3]
              · simp [o1, n1, o3]
            rw [this]
            rfl
          · intro i _
            by_cases q : 0 ≤ i <;> simp [lcStep, evSs, evS, evE, evEs, evPs, evB, evF, evI, evOB, evO, evV, startEnv, endFl, isOwn, ownI, bindT, bindTs, wipe, parOk, bindP, itD, q]
        have ll : acc.length + (ends1 ss k).length ≤ most := by
          unfold most
          omega
        unfold forStep
        show evSs (pr rep) (callD (pr rep) n) P.l__law_ends_0 [.v (.lst (ss.map sd)), .v b, .v (.lst (acc.map .int)), .v (nI k), y] h = _
        unfold P.l__law_ends_0
        rw [ss_nx (en' := [.v (.lst (ss.map sd)), .v b, .v (.lst ((acc ++ ends1 ss k).map .int)), .v (nI k), y]) (h' := h)]
        · simp [evSs]
        · have eb : evF (pr rep) (callD (pr rep) n) (.bin .add (.v 2) (.fr (.lc [4] (.v 4) (.e (.ix (.v 0) (.v 3))) (some (.e (.cmp .ge (.v 4) (.c (.int 0))))) (.v 4)))) [.v (.lst (ss.map sd)), .v b, .v (.lst (acc.map .int)), .v (nI k), y] h = .ok (.lst ((acc ++ ends1 ss k).map .int)) h := by
            rw [evF]
            simp [evE, lc, binF, ll]
          rw [evS, evV]
          simp only [isOwn, Bool.false_eq_true, if_false]
          rw [evE, eb]
          rfl
      rw [List.map_cons, forL, s1]
      simp only [same_none, if_true, e]
      simp [allE]
  obtain ⟨x', e⟩ := loop st [] .un .un (.tup (st.map nI)) hs (by simp; omega)
  refine call_rt (fn := P.d__law_ends) rfl rfl ?_
  show evSs (pr rep) (callD (pr rep) n) P.b__law_ends [.v (.lst (ss.map sd)), .v (.tup (st.map nI)), .un, .un, .un] h = _
  unfold P.b__law_ends
  rw [ss_nx (en' := [.v (.lst (ss.map sd)), .v (.tup (st.map nI)), .v (.lst ([].map .int)), .un, .un]) (h' := h), ss_nx (en' := [.v (.lst (ss.map sd)), .v (.tup (st.map nI)), .v (.lst (([] ++ allE ss st).map .int)), x', .un]) (h' := h)]
  · simp [evSs, evS, evE, evEs, evPs, evB, evF, evI, evOB, evO, evV, startEnv, endFl, isOwn, ownI, bindT, bindTs, wipe, parOk, bindP, itD]
  · rw [for_eq (xs := (st.map nI, none)) (h' := h) rfl (by simp [evSs, evS, evE, evEs, evPs, evB, evF, evI, evOB, evO, evV, startEnv, endFl, isOwn, ownI, bindT, bindTs, wipe, parOk, bindP, itD])]
    exact e
  · simp [evSs, evS, evE, evEs, evPs, evB, evF, evI, evOB, evO, evV, startEnv, endFl, isOwn, ownI, bindT, bindTs, wipe, parOk, bindP, itD]
theorem law_coins {st : List Nat} (hs : ∀ k ∈ st, k < ss.length) (hv : ∀ p ∈ ss, okS c p) (hm : st.length ≤ 12) : callD (pr rep) (n + 2) 27 [.lst (ss.map sd), .tup (st.map nI)] h = .ok (.lst ((sortI (dedupI (allE ss st))).map .int)) h := by
  have e := law_ends (rep := rep) (n := n) (h := h) hs hv hm
  have l1 : (allE ss st).length ≤ 2 * st.length := by
    unfold allE
    clear e hs hm
    induction st with
    | nil => simp
    | cons k st ih =>
      have : (ends1 ss k).length ≤ 2 := by
        unfold ends1 epts
        exact List.length_filter_le _ _
      simp only [List.flatMap_cons, List.length_append, List.length_cons]
      omega
  have l2 : (allE ss st).length < 60 := by omega
  refine call_rt (fn := P.d__law_coins) rfl rfl ?_
  simp [P.d__law_coins, P.b__law_coins, evSs, evS, evE, evEs, evPs, evB, evF, evI, evOB, evO, evV, startEnv, endFl, isOwn, ownI, bindT, bindTs, wipe, parOk, bindP, itD, e, l2]
end K16
end
section
set_option autoImplicit false
set_option linter.all false
set_option maxRecDepth 10000
open Mi
namespace K16
variable {rep : D → List Nat} {n : Nat} {h : AH} {w r : Nat} {c : Int} {ss : List (Int × Int)}
/-! ### the law's own code -/
theorem sd_map (p : Int × Int) : sd p = .tup ([p.1, p.2].map .int) := rfl
theorem cmp_sd (p q : Int × Int) : cmpD .eq (sd p) (sd q) h = some (.bl (decide (p = q))) := by
  rw [sd_map, sd_map]
  simp only [cmpD, cmpable_tupI, and_self, if_true, D.eqv, eqvs_int]
  congr 2
  by_cases e : p = q
  · subst e; simp
  · have : ¬ ([p.1, p.2] = [q.1, q.2]) := fun z => by
      simp at z
      exact e (Prod.ext z.1 z.2)
    rw [decide_eq_false this, decide_eq_false e]
theorem joins {st : List Nat} (hs : ∀ k ∈ st, k < ss.length) (a o : Int) (ho : o = -1 ∨ 0 ≤ o) : callD (pr rep) (n + 1) 28 [.lst (ss.map sd), .tup (st.map nI), .int a, .int o] h = .ok (nI (cnt ss st (key a o))) h := by
  refine call_rt (fn := P.d__law_joins) rfl rfl ?_
  have mn : (if o < a then o else a) = min a o := by split <;> omega
  have mx : (if a < o then o else a) = max a o := by split <;> omega
  have e1 : evS (pr rep) (callD (pr rep) n) (.set 4 (.ife (.e (.cmp .lt (.v 3) (.c (.int 0)))) (.tup (.cons (.v 2) (.cons (.v 3) .nil))) (.tup (.cons (.bi .min (.cons (.v 2) (.cons (.v 3) .nil))) (.cons (.bi .max (.cons (.v 2) (.cons (.v 3) .nil))) .nil)))))
      [.v (.lst (ss.map sd)), .v (.tup (st.map nI)), .v (.int a), .v (.int o), .un, .un] h = .ok (.nx [.v (.lst (ss.map sd)), .v (.tup (st.map nI)), .v (.int a), .v (.int o), .v (sd (key a o)), .un]) h := by
    rcases ho with ho | ho
    · subst ho
      simp [evSs, evS, evE, evEs, evPs, evB, evF, evI, evOB, evO, evV, startEnv, endFl, isOwn, ownI, bindT, bindTs, wipe, parOk, bindP, itD, key, sd]
    · have q : ¬ o < 0 := by omega
      have q2 : ¬ o = -1 := by omega
      simp [evSs, evS, evE, evEs, evPs, evB, evF, evI, evOB, evO, evV, startEnv, endFl, isOwn, ownI, bindT, bindTs, wipe, parOk, bindP, itD, key, sd, q, q2, biD, mn, mx]
  show evSs (pr rep) (callD (pr rep) n) P.b__law_joins [.v (.lst (ss.map sd)), .v (.tup (st.map nI)), .v (.int a), .v (.int o), .un, .un] h = _
  unfold P.b__law_joins
  rw [ss_nx e1, ss_rt]
  simp only [evS, evE, evPs]
  rw [lc_eq (xs := (st.map nI, none)) (h' := h)]
  · rw [compL_map (mk := nI) (f := fun k => if ss.getD k (0, 0) = key a o then some (nI k) else none) rfl]
    · have : st.filterMap (fun k => if ss.getD k (0, 0) = key a o then some (nI k) else none) = (st.filter fun k => decide (ss.getD k (0, 0) = key a o)).map nI := by
        rw [← List.filterMap_eq_map, List.filterMap_filter]
        congr 1
        funext k
        by_cases q : ss.getD k (0, 0) = key a o <;> simp [q]
      rw [this]
      simp only [bind_ok, bi_len_lst, ofO_some, List.length_map]
      rfl
    · intro k hk
      obtain ⟨p, hp⟩ : ∃ p, ss[k]? = some p := ⟨_, List.getElem?_eq_getElem (hs k hk)⟩
      have e2 : ss.getD k (0, 0) = p := by rw [List.getD_eq_getElem?_getD, hp]; rfl
      rw [e2]
      by_cases q : p = key a o <;> simp [lcStep, evSs, evS, evE, evEs, evPs, evB, evF, evI, evOB, evO, evV, startEnv, endFl, isOwn, ownI, bindT, bindTs, wipe, parOk, bindP, itD, hp, cmp_sd, q]
  · simp [evSs, evS, evE, evEs, evPs, evB, evF, evI, evOB, evO, evV, startEnv, endFl, isOwn, ownI, bindT, bindTs, wipe, parOk, bindP, itD]
theorem law_code_row {st : List Nat} (hs : ∀ k ∈ st, k < ss.length) {o : List Int} (h0 : ∀ a ∈ o, 0 ≤ a) (ho : o.length < 100) {i : Nat} {a : Int} (hi : o[i]? = some a) {acc : List D} (hacc : acc.length < most) {x y z : MSlot} {b : D} :
    ∃ x' z', forStep (pr rep) (callD (pr rep) (n + 1)) (.v 4) P.l__law_code_0 (nI i) [.v (.lst (ss.map sd)), .v (.tup (st.map nI)), .v (.tup (o.map .int)), .o (.lst acc), x, y, z] h =
      .ok (.nx [.v (.lst (ss.map sd)), .v (.tup (st.map nI)), .v (.tup (o.map .int)), .o (.lst (acc ++ [.tup ((rowOf (cnt ss st) o i a).map nI)])), .v (nI i), x', z']) h := by
  have hlt : i < o.length := (List.getElem?_eq_some_iff.mp hi).1
  have c1 : cut (o.map D.int) none (some (i : Int)) = (o.take i).map .int := by rw [cutTo _ _ (by rw [List.length_map]; omega), List.map_take]
  have tl : 1 + (o.take i).length ≤ most := by
    rw [List.length_take]
    unfold most
    omega
  obtain ⟨L, hL⟩ : ∃ L, L = (-1 :: o.take i).map D.int := ⟨_, rfl⟩
  refine ⟨.v (.lst L), z, ?_⟩
  unfold forStep
  show evSs (pr rep) (callD (pr rep) (n + 1)) P.l__law_code_0 [.v (.lst (ss.map sd)), .v (.tup (st.map nI)), .v (.tup (o.map .int)), .o (.lst acc), .v (nI i), y, z] h = _
  unfold P.l__law_code_0
  have et : (o.map D.int)[i]? = some (.int a) := by rw [List.getElem?_map, hi]; rfl
  rw [ss_nx (en' := [.v (.lst (ss.map sd)), .v (.tup (st.map nI)), .v (.tup (o.map .int)), .o (.lst acc), .v (nI i), .v (.lst L), z]) (h' := h),
    ss_nx (en' := [.v (.lst (ss.map sd)), .v (.tup (st.map nI)), .v (.tup (o.map .int)), .o (.lst (acc ++ [.tup ((rowOf (cnt ss st) o i a).map nI)])), .v (nI i), .v (.lst L), z]) (h' := h)]
  · simp [evSs]
  · have lc : evF (pr rep) (callD (pr rep) (n + 1)) (.lc [6] (.v 6) (.e (.v 5)) none (.call 28 (.cons (.v 0) (.cons (.v 1) (.cons (.ix (.v 2) (.v 4)) (.cons (.v 6) .nil)))))) [.v (.lst (ss.map sd)), .v (.tup (st.map nI)), .v (.tup (o.map .int)), .o (.lst acc), .v (nI i), .v (.lst L), z] h = .ok (.lst ((rowOf (cnt ss st) o i a).map nI)) h := by
      rw [lc_eq (xs := (L, none)) (h' := h)]
      · rw [hL]
        rw [compL_map (mk := D.int) (f := fun b => some (nI (cnt ss st (key a b)))) rfl]
        · rw [filterMap_map, bind_ok]
          simp [rowOf]
          rfl
        · intro b hb
          rw [← hL]
          have hb2 : b = -1 ∨ 0 ≤ b := by
            rcases List.mem_cons.mp hb with e | e
            · exact .inl e
            · exact .inr (h0 b (List.mem_of_mem_take e))
          simp [lcStep, evSs, evS, evE, evEs, evPs, evB, evF, evI, evOB, evO, evV, startEnv, endFl, isOwn, ownI, bindT, bindTs, wipe, parOk, bindP, itD, hi, joins hs a b hb2]
      · simp [evSs, evS, evE, evEs, evPs, evB, evF, evI, evOB, evO, evV, startEnv, endFl, isOwn, ownI, bindT, bindTs, wipe, parOk, bindP, itD]
    simp only [evS, evE, evEs, evPs]
    simp [evE, evPs, evEs, lc, isOwn, bmTag, tagD, objD, bmO, hacc, MObj.d]
  · have ll : evF (pr rep) (callD (pr rep) (n + 1)) (.bin .add (.fr (.lst (.cons (.bin .sub (.c (.int 0)) (.c (.int 1))) .nil))) (.fr (.of (.e (.sl (.v 2) none (some (.v 4))))))) [.v (.lst (ss.map sd)), .v (.tup (st.map nI)), .v (.tup (o.map .int)), .o (.lst acc), .v (nI i), y, z] h = .ok (.lst L) h := by
      rw [hL]
      rw [List.map_take] at c1
      have tl2 : 1 + (List.take i (o.map D.int)).length ≤ most := by
        rw [← List.map_take, List.length_map]
        exact tl
      simp [evSs, evS, evE, evEs, evPs, evB, evF, evI, evOB, evO, evV, startEnv, endFl, isOwn, ownI, bindT, bindTs, wipe, parOk, bindP, itD, slD, c1, binF]
      have : o.length ≤ most := by unfold most; omega
      rw [if_pos (by unfold most; omega)]
      rfl
    rw [evS, evV]
    simp only [isOwn, Bool.false_eq_true, if_false]
    rw [evE, ll]
    rfl
end K16
end
section
set_option autoImplicit false
set_option linter.all false
set_option maxRecDepth 10000
open Mi
namespace K16
variable {rep : D → List Nat} {n : Nat} {h : AH} {w r : Nat} {c : Int} {ss : List (Int × Int)}
theorem rngI {call : CallT} {e : E} {en : MEnv} {i : Int} (h0 : 0 ≤ i) (hk : i ≤ 100) (he : evE (pr rep) call e en h = .ok (.int i) h) : evI (pr rep) call (.r1 e) en h = .ok (rangeL 0 i.toNat 1, none) h := by
  have hw : wide i = true := by
    unfold wide
    simp
    omega
  have hn : i.toNat ≤ most := by unfold most; omega
  rw [evI, he]
  simp only [bind_ok]
  rw [if_pos ⟨hw, hn⟩]
theorem rng {call : CallT} {e : E} {en : MEnv} {k : Nat} (hk : k ≤ 100) (he : evE (pr rep) call e en h = .ok (.int k) h) : evI (pr rep) call (.r1 e) en h = .ok ((List.range k).map nI, none) h := by
  rw [rngI (Int.natCast_nonneg k) (by omega) he, Int.toNat_natCast, range_nI]
def rowD (f : Int × Int → Nat) (o : List Int) (i : Nat) : D := .tup ((rowOf f o i (o.getD i 0)).map nI)
theorem codeD_rows (f : Int × Int → Nat) (o : List Int) : codeD f o = .tup ((List.range o.length).map (rowD f o)) := by
  unfold codeD
  congr 1
  refine List.ext_getElem (by simp) fun i h1 h2 => ?_
  simp at h1 h2
  simp [rowD, h2]
theorem law_code {st : List Nat} (hs : ∀ k ∈ st, k < ss.length) {o : List Int} (h0 : ∀ a ∈ o, 0 ≤ a) (ho : o.length < 100) : callD (pr rep) (n + 2) 29 [.lst (ss.map sd), .tup (st.map nI), .tup (o.map .int)] h = .ok (codeD (cnt ss st) o) h := by
  have loop : ∀ (l : List Nat) (acc : List D) (x y z : MSlot), (∀ i ∈ l, i < o.length) → acc.length + l.length ≤ 100 → ∃ x' y' z', forL (same none h) (forStep (pr rep) (callD (pr rep) (n + 1)) (.v 4) P.l__law_code_0) (l.map nI) [.v (.lst (ss.map sd)), .v (.tup (st.map nI)), .v (.tup (o.map .int)), .o (.lst acc), x, y, z] h =
      .ok (.nx [.v (.lst (ss.map sd)), .v (.tup (st.map nI)), .v (.tup (o.map .int)), .o (.lst (acc ++ l.map (rowD (cnt ss st) o))), x', y', z']) h := by
    intro l
    induction l with
    | nil => intro acc x y z _ _; exact ⟨x, y, z, by simp [forL]⟩
    | cons i l ih =>
      intro acc x y z hl ha
      rw [List.length_cons] at ha
      have hi := hl i List.mem_cons_self
      have e1 : o[i]? = some (o.getD i 0) := by rw [List.getD_eq_getElem?_getD, List.getElem?_eq_getElem hi]; rfl
      obtain ⟨x1, z1, s1⟩ := law_code_row (rep := rep) (n := n) (h := h) hs h0 ho e1 (acc := acc) (by unfold most; omega) (x := x) (y := y) (z := z) (b := .non)
      obtain ⟨x2, y2, z2, s2⟩ := ih (acc ++ [rowD (cnt ss st) o i]) (.v (nI i)) x1 z1 (fun j hj => hl j (List.mem_cons_of_mem _ hj)) (by simp; omega)
      refine ⟨x2, y2, z2, ?_⟩
      rw [List.map_cons, forL, s1]
      simp only [same_none, if_true]
      rw [show (D.tup ((rowOf (cnt ss st) o i (o.getD i 0)).map nI)) = rowD (cnt ss st) o i from rfl, s2]
      simp
  obtain ⟨x', y', z', e⟩ := loop (List.range o.length) [] .un .un .un (fun i hi => List.mem_range.mp hi) (by simp; omega)
  refine call_rt (fn := P.d__law_code) rfl rfl ?_
  show evSs (pr rep) (callD (pr rep) (n + 1)) P.b__law_code [.v (.lst (ss.map sd)), .v (.tup (st.map nI)), .v (.tup (o.map .int)), .un, .un, .un, .un] h = _
  unfold P.b__law_code
  rw [ss_nx (en' := [.v (.lst (ss.map sd)), .v (.tup (st.map nI)), .v (.tup (o.map .int)), .o (.lst []), .un, .un, .un]) (h' := h), ss_nx (en' := [.v (.lst (ss.map sd)), .v (.tup (st.map nI)), .v (.tup (o.map .int)), .o (.lst ([] ++ (List.range o.length).map (rowD (cnt ss st) o))), x', y', z']) (h' := h)]
  · simp [evSs, evS, evE, evEs, evPs, evB, evF, evI, evOB, evO, evV, startEnv, endFl, isOwn, ownI, bindT, bindTs, wipe, parOk, bindP, itD, codeD_rows]
  · have hw : wide (o.length : Int) = true := by
      unfold wide
      simp
      omega
    rw [for_eq (xs := ((List.range o.length).map nI, none)) (h' := h) rfl (rng (by omega) (by simp [evSs, evS, evE, evEs, evPs, evB, evF, evI, evOB, evO, evV, startEnv, endFl, isOwn, ownI, bindT, bindTs, wipe, parOk, bindP, itD]))]
    exact e
  · simp [evSs, evS, evE, evEs, evPs, evB, evF, evI, evOB, evO, evV, startEnv, endFl, isOwn, ownI, bindT, bindTs, wipe, parOk, bindP, itD]
/-! ### a shuffle -/
theorem shuffled {ns xs : List Int} (hr : Row ns r h) (hn : xs.Nodup) (hl : xs.length ≤ 100) : ∃ (o : List Int) (h' : AH), o.Perm xs ∧ Row ns r h' ∧ Stay r h h' ∧ callD (pr rep) (n + 3) 30 [.ref r, .lst (xs.map .int)] h = .ok (.tup (o.map .int)) h' := by
  have step : ∀ (left found : List Int) (x y z : MSlot) (i : Nat) (h1 : AH), left ≠ [] → left.Nodup → left.length ≤ 100 → found.length ≤ 100 → Row ns r h1 → ∃ a h2, a ∈ left ∧ Row ns r h2 ∧ Stay r h1 h2 ∧
      forStep (pr rep) (callD (pr rep) (n + 2)) (.v 4) P.l__law_shuffled_0 (nI i) [.v (.ref r), .v (.lst (xs.map .int)), .v (.lst (left.map .int)), .o (.lst (found.map .int)), x, y, z] h1 =
        .ok (.nx [.v (.ref r), .v (.lst (xs.map .int)), .v (.lst ((left.filter fun j => j != a).map .int)), .o (.lst ((found ++ [a]).map .int)), .v (nI i), .v (.int a), z]) h2 := by
    intro left found x y z i h1 hne hnd hll hfl hrow
    obtain ⟨d, h2, hd, r2, s2, e2⟩ := pick (rep := rep) (n := n) (xs := left.map D.int) hrow (by simpa using hne) (by simp; omega)
    obtain ⟨a, ha, rfl⟩ := List.mem_map.mp hd
    refine ⟨a, h2, ha, r2, s2, ?_⟩
    have hfm : found.length < most := by unfold most; omega
    unfold forStep
    show evSs (pr rep) (callD (pr rep) (n + 2)) P.l__law_shuffled_0 [.v (.ref r), .v (.lst (xs.map .int)), .v (.lst (left.map .int)), .o (.lst (found.map .int)), .v (nI i), y, z] h1 = _
    unfold P.l__law_shuffled_0
    rw [ss_nx (en' := [.v (.ref r), .v (.lst (xs.map .int)), .v (.lst (left.map .int)), .o (.lst (found.map .int)), .v (nI i), .v (.int a), z]) (h' := h2),
      ss_nx (en' := [.v (.ref r), .v (.lst (xs.map .int)), .v (.lst (left.map .int)), .o (.lst ((found ++ [a]).map .int)), .v (nI i), .v (.int a), z]) (h' := h2),
      ss_nx (en' := [.v (.ref r), .v (.lst (xs.map .int)), .v (.lst ((left.filter fun j => j != a).map .int)), .o (.lst ((found ++ [a]).map .int)), .v (nI i), .v (.int a), z]) (h' := h2)]
    · simp [evSs]
    · have lc : evF (pr rep) (callD (pr rep) (n + 2)) (.lc [6] (.v 6) (.e (.v 2)) (some (.e (.cmp .ne (.v 6) (.v 5)))) (.v 6)) [.v (.ref r), .v (.lst (xs.map .int)), .v (.lst (left.map .int)), .o (.lst ((found ++ [a]).map .int)), .v (nI i), .v (.int a), z] h2 = .ok (.lst ((left.filter fun j => j != a).map .int)) h2 := by
        rw [lc_eq (xs := (left.map D.int, none)) (h' := h2) (by simp [evSs, evS, evE, evEs, evPs, evB, evF, evI, evOB, evO, evV, startEnv, endFl, isOwn, ownI, bindT, bindTs, wipe, parOk, bindP, itD])]
        rw [compL_map (mk := D.int) (f := fun j => if j = a then none else some (D.int j)) rfl]
        · have : left.filterMap (fun j => if j = a then none else some (D.int j)) = (left.filter fun j => j != a).map .int := by
            rw [← List.filterMap_eq_map, List.filterMap_filter]
            congr 1
            funext j
            by_cases q : j = a <;> simp [q]
          rw [this]
          rfl
        · intro j _
          by_cases q : j = a <;> simp [lcStep, evSs, evS, evE, evEs, evPs, evB, evF, evI, evOB, evO, evV, startEnv, endFl, isOwn, ownI, bindT, bindTs, wipe, parOk, bindP, itD, q]
      rw [evS, evV]
      simp only [isOwn, Bool.false_eq_true, if_false]
      rw [evE, lc]
      rfl
    · simp [evSs, evS, evE, evEs, evPs, evB, evF, evI, evOB, evO, evV, startEnv, endFl, isOwn, ownI, bindT, bindTs, wipe, parOk, bindP, itD, bmTag, tagD, objD, bmO, hfm, MObj.d]
    · simp [evSs, evS, evE, evEs, evPs, evB, evF, evI, evOB, evO, evV, startEnv, endFl, isOwn, ownI, bindT, bindTs, wipe, parOk, bindP, itD, e2]
  obtain ⟨en', h', e, left, found, x, y, z, rfl, i1, i2, i3, i4, i5⟩ := forL_map (g := same none h) (step := forStep (pr rep) (callD (pr rep) (n + 2)) (.v 4) P.l__law_shuffled_0) nI
    (fun rest en h' => ∃ (left found : List Int) (x y z : MSlot), en = [.v (.ref r), .v (.lst (xs.map .int)), .v (.lst (left.map .int)), .o (.lst (found.map .int)), x, y, z] ∧ left.length = rest.length ∧ (found ++ left).Perm xs ∧ left.Nodup ∧ Row ns r h' ∧ Stay r h h')
    (fun i rest en h1 hI => by
      obtain ⟨left, found, x, y, z, rfl, a1, a2, a3, a4, a5⟩ := hI
      have al := a2.length_eq
      rw [List.length_append] at al
      obtain ⟨a, h2, ha, b2, b3, b4⟩ := step left found x y z i h1 (fun q => by subst q; simp at a1) a3 (by omega) (by omega) a4
      have fe : left.filter (fun j => j != a) = left.erase a := (List.Nodup.erase_eq_filter a3 a).symm
      refine ⟨_, h2, b4, rfl, left.filter fun j => j != a, found ++ [a], _, _, _, rfl, ?_, ?_, a3.filter _, b2, a5.trans b3⟩
      · rw [fe, List.length_erase_of_mem ha, a1]
        simp
      · rw [fe, List.append_assoc]
        exact ((List.perm_cons_erase ha).symm.append_left found).trans a2)
    (l := List.range xs.length) (en := [.v (.ref r), .v (.lst (xs.map .int)), .v (.lst (xs.map .int)), .o (.lst []), .un, .un, .un]) (h := h) ⟨xs, [], .un, .un, .un, rfl, by simp, .refl _, hn, hr, .refl r h⟩
  have : left = [] := List.length_eq_zero_iff.mp i1
  subst this
  rw [List.append_nil] at i2
  refine ⟨found, h', i2, i4, i5, ?_⟩
  refine call_rt (fn := P.d__law_shuffled) rfl rfl ?_
  show evSs (pr rep) (callD (pr rep) (n + 2)) P.b__law_shuffled [.v (.ref r), .v (.lst (xs.map .int)), .un, .un, .un, .un, .un] h = _
  unfold P.b__law_shuffled
  rw [ss_nx (en' := [.v (.ref r), .v (.lst (xs.map .int)), .v (.lst (xs.map .int)), .o (.lst []), .un, .un, .un]) (h' := h), ss_nx (en' := [.v (.ref r), .v (.lst (xs.map .int)), .v (.lst ([].map .int)), .o (.lst (found.map .int)), x, y, z]) (h' := h')]
  · simp [evSs, evS, evE, evEs, evPs, evB, evF, evI, evOB, evO, evV, startEnv, endFl, isOwn, ownI, bindT, bindTs, wipe, parOk, bindP, itD]
  · have hw : wide (xs.length : Int) = true := by
      unfold wide
      simp
      omega
    rw [for_eq (xs := ((List.range xs.length).map nI, none)) (h' := h) rfl (rng (by omega) (by simp [evSs, evS, evE, evEs, evPs, evB, evF, evI, evOB, evO, evV, startEnv, endFl, isOwn, ownI, bindT, bindTs, wipe, parOk, bindP, itD]))]
    exact e
  · simp [evSs, evS, evE, evEs, evPs, evB, evF, evI, evOB, evO, evV, startEnv, endFl, isOwn, ownI, bindT, bindTs, wipe, parOk, bindP, itD]
/-! ### alike -/
theorem alike_int (k : Int) : callD (pr rep) (n + 1) 20 [.int k, .int k] h = .ok (.bl true) h := by
  refine call_rt (fn := P.d__law_alike) rfl rfl ?_
  have t1 : isinD (.int k) h (pr rep).sub [.ty 3, .ty 4] = some false := rfl
  have t2 : isinD (.int k) h (pr rep).sub [.ty 5] = some false := rfl
  have t3 : isinD (.int k) h (pr rep).sub [.ty 2] = some false := rfl
  have t4 : isinD (.int k) h (pr rep).sub [.ty 0] = some true := rfl
  have t5 : isinD (.int k) h (pr rep).sub [.ty 1] = some false := rfl
  have t6 : cmpD .is (.int k) .non h = some (.bl false) := rfl
  simp [P.d__law_alike, P.b__law_alike, evSs, evS, evE, evEs, evPs, evB, evF, evI, evOB, evO, evV, startEnv, endFl, isOwn, ownI, bindT, bindTs, wipe, parOk, bindP, itD, t1, t2, t3, t4, t5, t6]
theorem cmp_nil : cmpD .eq (.lst []) (.lst []) h = some (.bl true) := by
  have := eqvs_int [] []
  have c := cmpable_lstI []
  simp at this c
  simp [cmpD, c, D.eqv, this]
theorem ev_nil {call : CallT} {en : MEnv} : evF (pr rep) call (.lst .nil) en h = .ok (.lst []) h := by simp [evSs, evS, evE, evEs, evPs, evB, evF, evI, evOB, evO, evV, startEnv, endFl, isOwn, ownI, bindT, bindTs, wipe, parOk, bindP, itD]
theorem alike_lc {xs : List D} (hx : ∀ x ∈ xs, callD (pr rep) n 20 [x, x] h = .ok (.bl true) h) (hl : xs.length ≤ 100) : evF (pr rep) (callD (pr rep) n) (.lc [2] (.v 2) (.r1 (.bi .len (.cons (.v 1) .nil))) (some (.not (.e (.call 20 (.cons (.ix (.v 0) (.v 2)) (.cons (.ix (.v 1) (.v 2)) .nil)))))) (.v 2)) [.v (.tup xs), .v (.tup xs), .un, .un] h = .ok (.lst []) h := by
  rw [lc_eq (xs := ((List.range xs.length).map nI, none)) (h' := h) (rng (by omega) (by simp [evSs, evS, evE, evEs, evPs, evB, evF, evI, evOB, evO, evV, startEnv, endFl, isOwn, ownI, bindT, bindTs, wipe, parOk, bindP, itD]))]
  rw [compL_map (mk := nI) (f := fun _ => none) rfl]
  · simp
  · intro i hi
    have hi := List.mem_range.mp hi
    simp [lcStep, evSs, evS, evE, evEs, evPs, evB, evF, evI, evOB, evO, evV, startEnv, endFl, isOwn, ownI, bindT, bindTs, wipe, parOk, bindP, itD, List.getElem?_eq_getElem hi, hx _ (List.getElem_mem hi)]
theorem alike_tup {xs : List D} (hx : ∀ x ∈ xs, callD (pr rep) n 20 [x, x] h = .ok (.bl true) h) (hl : xs.length ≤ 100) : callD (pr rep) (n + 1) 20 [.tup xs, .tup xs] h = .ok (.bl true) h := by
  have lc := alike_lc (rep := rep) (n := n) (h := h) hx hl
  refine call_rt (fn := P.d__law_alike) rfl rfl ?_
  have t1 : isinD (.tup xs) h (pr rep).sub [.ty 3, .ty 4] = some true := rfl
  have t2 : isinD (.tup xs) h (pr rep).sub [.ty 4] = some false := rfl
  have t3 : cmpD .eq (.lst []) (.lst []) h = some (.bl true) := cmp_nil
  have e0 : evF (pr rep) (callD (pr rep) n) (.lst .nil) [.v (.tup xs), .v (.tup xs), .un, .un] h = .ok (.lst []) h := ev_nil
  simp only [P.d__law_alike, P.b__law_alike]
  generalize F.lc [2] (.v 2) (.r1 (.bi .len (.cons (.v 1) .nil))) (some (.not (.e (.call 20 (.cons (.ix (.v 0) (.v 2)) (.cons (.ix (.v 1) (.v 2)) .nil)))))) (.v 2) = X at lc ⊢
  rw [ss_rt (d := .bl true) (h' := h)]
  show evS _ _ _ _ _ = _
  rw [evS]
  have c1 : evB (pr rep) (callD (pr rep) n) (.e (.isi (.v 1) [.ty 3, .ty 4])) (startEnv 4 [.tup xs, .tup xs]) h = .ok true h := by
    simp [evSs, evS, evE, evEs, evPs, evB, evF, evI, evOB, evO, evV, startEnv, endFl, isOwn, ownI, bindT, bindTs, wipe, parOk, bindP, itD, t1]
  rw [c1]
  simp only [bind_ok]
  rw [ss_nx (en' := startEnv 4 [.tup xs, .tup xs]) (h' := h), ss_nx (en' := startEnv 4 [.tup xs, .tup xs]) (h' := h), ss_rt]
  · simp only [evS, evE]
    rw [show startEnv 4 [.tup xs, .tup xs] = [.v (.tup xs), .v (.tup xs), .un, .un] from rfl, lc]
    simp only [bind_ok]
    rw [e0]
    simp only [bind_ok]
    rw [t3]
    rfl
  · simp [evSs, evS, evE, evEs, evPs, evB, evF, evI, evOB, evO, evV, startEnv, endFl, isOwn, ownI, bindT, bindTs, wipe, parOk, bindP, itD]
  · simp [evSs, evS, evE, evEs, evPs, evB, evF, evI, evOB, evO, evV, startEnv, endFl, isOwn, ownI, bindT, bindTs, wipe, parOk, bindP, itD, t1, t2]
theorem alike_code (f : Int × Int → Nat) (o : List Int) (ho : o.length < 100) : callD (pr rep) (n + 3) 20 [codeD f o, codeD f o] h = .ok (.bl true) h := by
  unfold codeD
  refine alike_tup (fun x hx => ?_) (by simp; omega)
  obtain ⟨p, hp, rfl⟩ := List.mem_map.mp hx
  refine alike_tup (fun y hy => ?_) (by simp [rowOf]; omega)
  obtain ⟨k, _, rfl⟩ := List.mem_map.mp hy
  exact alike_int _
end K16
end
section
set_option autoImplicit false
set_option linter.all false
set_option maxRecDepth 10000
open Mi
namespace K16
variable {rep : D → List Nat} {n : Nat} {h : AH} {w r : Nat} {c : Int} {ss : List (Int × Int)}
/-! ### small data and their repr -/
def wWeb : List Nat := [119, 101, 98]
def wSt : List Nat := [115, 116, 97, 110, 100, 105, 110, 103]
def wOr : List Nat := [111, 114, 100, 101, 114]
def w0 : List Nat := [48]
def wordsK : List (List Nat) := [wWeb, wSt, wOr, w0, []]
def smB (d : D) : Bool := d.shw && decide (d.depth ≤ 50) && tinyD wordsK d && decide (costD d ≤ 100000)
def El (x : D) : Prop := x.shw0 = true ∧ x.depth = 0 ∧ tinyD wordsK x = true ∧ costD x = 16
theorem El_int {i : Int} (hi : i.natAbs ≤ 1000) : El (.int i) := ⟨by simp only [D.shw0, decide_eq_true_eq]; omega, rfl, by simp only [tinyD, decide_eq_true_eq]; exact hi, rfl⟩
theorem shws0_all : ∀ xs : List D, D.shws0 xs = xs.all D.shw0
  | [] => rfl
  | x :: xs => by rw [D.shws0, shws0_all xs]; rfl
theorem depths_el : ∀ {xs : List D}, (∀ x ∈ xs, El x) → D.depths xs = 0
  | [], _ => rfl
  | x :: xs, h => by
    rw [D.depths, (h x List.mem_cons_self).2.1, depths_el fun y hy => h y (List.mem_cons_of_mem _ hy)]
    rfl
/-- a small thing under a word -/
def Sm (d : D) : Prop := ∀ word ∈ wordsK, smB (.tup [.str word, d]) = true
theorem sm_seq {ds : List D} (h : ∀ x ∈ ds, El x) (hl : ds.length ≤ 1000) : Sm (.tup ds) ∧ Sm (.lst ds) := by
  have a1 : D.shws0 ds = true := by rw [shws0_all, List.all_eq_true]; exact fun x hx => (h x hx).1
  have a2 := depths_el h
  have a3 : tinyDs wordsK ds = true := by rw [tinyDs_all, List.all_eq_true]; exact fun x hx => (h x hx).2.2.1
  have a4 : costDs ds ≤ ds.length * 18 := costDs_le (b := 16) fun x hx => Nat.le_of_eq (h x hx).2.2.2
  have a5 : ds.length * 18 ≤ 18000 := by omega
  constructor
  · intro word hw
    have b1 : (word.all fun c => decide (c < 1114112)) = true := by
      revert word
      decide
    have b2 : wordsK.contains word = true := by simpa using hw
    simp [smB, D.shw, D.shw0, D.shws0, a1, b1, D.depth, D.depths, a2, tinyD, tinyDs, a3, costD, costDs]
    exact ⟨hw, by omega⟩
  · intro word hw
    have b1 : (word.all fun c => decide (c < 1114112)) = true := by
      revert word
      decide
    have b2 : wordsK.contains word = true := by simpa using hw
    simp [smB, D.shw, D.shw0, D.shws0, a1, b1, D.depth, D.depths, a2, tinyD, tinyDs, a3, costD, costDs]
    exact ⟨hw, by omega⟩
theorem rep_ok (ro : RepOk rep wordsK) {d : D} (hd : smB d = true) : biD (pr rep) .repr [d] h = some (.str (rep d)) := by
  unfold smB at hd
  simp only [Bool.and_eq_true, decide_eq_true_eq] at hd
  obtain ⟨⟨⟨h1, h2⟩, h3⟩, h4⟩ := hd
  show (if d.shw ∧ d.depth ≤ 50 ∧ (rep d).length ≤ most then some (D.str (rep d)) else none) = _
  rw [if_pos ⟨h1, h2, ro.len d h3 h4⟩]
theorem str_cmp {s t : List Nat} (hs : (s.all fun c => decide (c < 1114112)) = true) (ht : (t.all fun c => decide (c < 1114112)) = true) (o : Bool) : cmpD (if o then .eq else .ne) (.str s) (.str t) h = some (.bl (if o then s == t else !(s == t))) := by
  have c1 : (D.str s).cmpable = true := by simp only [D.cmpable, D.plain, hs, D.depth]; rfl
  have c2 : (D.str t).cmpable = true := by simp only [D.cmpable, D.plain, ht, D.depth]; rfl
  cases o <;> simp [cmpD, c1, c2, D.eqv]
theorem smB_tiny {d : D} (hd : smB d = true) : tinyD wordsK d = true := by
  unfold smB at hd
  simp only [Bool.and_eq_true] at hd
  exact hd.1.2
theorem refuse (ro : RepOk rep wordsK) {call : CallT} {E X : Mi.E} {en : MEnv} {h h' : AH} {c : Nat} {d : D} {word : List Nat} (he : evE (pr rep) call E en h = .exc c d h') (hx : evE (pr rep) call X en h' = .ok d h')
    (hw : handler [(4, wWeb), (5, wSt), (6, wOr)] ((pr rep).sub c) = some word) (hs : smB (.tup [.str word, d]) = true) (o1 : isOwn X en = false) (o : Bool) :
    evE (pr rep) call (.cmp (if o then .eq else .ne) (.bi .repr (.cons (.rf 0 E) .nil)) (.bi .repr (.cons (.tup (.cons (.c (.str word)) (.cons X .nil))) .nil))) en h = .ok (.bl o) h' := by
  have e1 : evE (pr rep) call (.rf 0 E) en h = .ok (.tup [.str word, d]) h' := by
    have r0 : (pr rep).rfs[0]? = some [(4, wWeb), (5, wSt), (6, wOr)] := rfl
    simp [evE, r0, he, hw]
  have ra : ∀ h, biD (pr rep) .repr [.tup [.str word, d]] h = some (.str (rep (.tup [.str word, d]))) := fun h => rep_ok ro hs
  have rc := ro.chr _ (smB_tiny hs)
  simp only [evE, evPs, evEs] at e1 ⊢
  have o2 : isOwn (.c (.str word)) en = false := rfl
  simp [e1, hx, ra, o1, o2]
  rw [str_cmp rc rc]
  cases o <;> simp
theorem refuse_ok (ro : RepOk rep wordsK) {call : CallT} {E X : Mi.E} {en : MEnv} {h h' : AH} {x d : D} {word : List Nat} (he : evE (pr rep) call E en h = .ok x h') (hx : evE (pr rep) call X en h' = .ok d h')
    (hs : smB (.tup [.str word, d]) = true) (o1 : isOwn X en = false) :
    ∃ b, evE (pr rep) call (.cmp .ne (.bi .repr (.cons (.rf 0 E) .nil)) (.bi .repr (.cons (.tup (.cons (.c (.str word)) (.cons X .nil))) .nil))) en h = .ok (.bl b) h' := by
  have e1 : evE (pr rep) call (.rf 0 E) en h = .ok (.tup [.str [], .non]) h' := by
    have r0 : (pr rep).rfs[0]? = some [(4, wWeb), (5, wSt), (6, wOr)] := rfl
    simp [evE, r0, he]
  have ra : ∀ h, biD (pr rep) .repr [.tup [.str word, d]] h = some (.str (rep (.tup [.str word, d]))) := fun h => rep_ok ro hs
  have s0 : smB (.tup [.str [], .non]) = true := by decide
  have rb : ∀ h, biD (pr rep) .repr [.tup [.str [], .non]] h = some (.str (rep (.tup [.str [], .non]))) := fun h => rep_ok ro s0
  have rc := ro.chr _ (smB_tiny hs)
  have rc2 := ro.chr _ (smB_tiny s0)
  refine ⟨!(rep (.tup [.str [], .non]) == rep (.tup [.str word, d])), ?_⟩
  simp only [evE, evPs, evEs] at e1 ⊢
  have o2 : isOwn (.c (.str word)) en = false := rfl
  simp [e1, hx, ra, rb, o1, o2]
  have := str_cmp (h := h') rc2 rc false
  simp only [Bool.false_eq_true, if_false] at this
  rw [this]
  simp
/-! ### bad things -/
def badW : List D := [.non, .int 3, .tup [.int 1, .tup []], .str wWeb, .lst [], .dct [] []]
theorem badW_ok : ∀ d ∈ badW, ask d = true ∧ smB (.tup [.str wWeb, d]) = true := by decide
theorem bad_web {ns : List Int} (hr : Row ns r h) : ∃ d h', d ∈ badW ∧ Row ns r h' ∧ Stay r h h' ∧ callD (pr rep) (n + 3) 24 [.ref r] h = .ok d h' := by
  obtain ⟨d, h', a1, a2, a3, a4⟩ := pick (rep := rep) (n := n) (xs := badW) hr (by decide) (by decide)
  refine ⟨d, h', a1, a2, a3, ?_⟩
  refine call_rt (fn := P.d__law_bad_web) rfl rfl ?_
  unfold badW at a4
  simp [P.d__law_bad_web, P.b__law_bad_web, evSs, evS, evE, evEs, evPs, evB, evF, evI, evOB, evO, evV, startEnv, endFl, isOwn, ownI, bindT, bindTs, wipe, parOk, bindP, itD, wWeb] at a4 ⊢
  simp [a4]
def badS (m : Int) : List D := [.non, .int 3, .lst [.int 0], .tup [.int m], .tup [.int 0, .int 0], .tup [.int 1, .int 0], .tup [.int (-1)], .tup [.str w0], .tup [.bl true], .tup [.int 0, .int m]]
theorem bad_standing {ns : List Int} (hr : Row ns r h) (m : Int) : ∃ d h', d ∈ badS m ∧ Row ns r h' ∧ Stay r h h' ∧ callD (pr rep) (n + 3) 25 [.ref r, .int m] h = .ok d h' := by
  obtain ⟨d, h', a1, a2, a3, a4⟩ := pick (rep := rep) (n := n) (xs := badS m) hr (by simp [badS]) (by simp [badS])
  refine ⟨d, h', a1, a2, a3, ?_⟩
  refine call_rt (fn := P.d__law_bad_standing) rfl rfl ?_
  unfold badS at a4
  simp [P.d__law_bad_standing, P.b__law_bad_standing, evSs, evS, evE, evEs, evPs, evB, evF, evI, evOB, evO, evV, startEnv, endFl, isOwn, ownI, bindT, bindTs, wipe, parOk, bindP, itD, w0] at a4 ⊢
  simp [a4]
theorem badS_ask {m : Int} : ∀ d ∈ badS m, ask d = true := by
  intro d hd
  simp only [badS, List.mem_cons, List.not_mem_nil, or_false] at hd
  rcases hd with rfl | rfl | rfl | rfl | rfl | rfl | rfl | rfl | rfl | rfl <;> rfl
theorem badS_sm {m : Int} (hm : m.natAbs ≤ 100) : ∀ d ∈ badS m, smB (.tup [.str wSt, d]) = true := by
  have q : wSt ∈ wordsK := by decide
  have e0 : El (.int 0) := El_int (by decide)
  have e1 : El (.int 1) := El_int (by decide)
  have em : El (.int m) := El_int (by omega)
  have en : El (.int (-1)) := El_int (by decide)
  have es : El (.str w0) := ⟨by decide, rfl, by decide, rfl⟩
  have eb : El (.bl true) := ⟨rfl, rfl, rfl, rfl⟩
  have s1 : ∀ {x : D}, El x → Sm (.tup [x]) ∧ Sm (.lst [x]) := fun {x} hx => sm_seq (fun y hy => by rw [List.mem_singleton.mp hy]; exact hx) (by simp)
  have s2 : ∀ {x y : D}, El x → El y → Sm (.tup [x, y]) := fun {x y} hx hy => (sm_seq (fun z hz => by
    rcases List.mem_cons.mp hz with rfl | hz
    · exact hx
    · rw [List.mem_singleton.mp hz]; exact hy) (by simp)).1
  intro d hd
  simp only [badS, List.mem_cons, List.not_mem_nil, or_false] at hd
  rcases hd with rfl | rfl | rfl | rfl | rfl | rfl | rfl | rfl | rfl | rfl
  · decide
  · decide
  · exact (s1 e0).2 _ q
  · exact (s1 em).1 _ q
  · exact s2 e0 e0 _ q
  · exact s2 e1 e0 _ q
  · exact (s1 en).1 _ q
  · exact (s1 es).1 _ q
  · exact (s1 eb).1 _ q
  · exact s2 e0 em _ q
theorem badS_no {m : Int} (hm : 1 ≤ m) : ∀ d ∈ badS m, callD (pr rep) (n + 3) 3 [d, .int 0, .int (m - 1)] h = .ok (.bl false) h := by
  intro d hd
  have ha := badS_ask d hd
  simp only [badS, List.mem_cons, List.not_mem_nil, or_false] at hd
  have t : ∀ ds : List D, (∀ x ∈ ds, ask x = true) → isR ds 0 (m - 1) = false → callD (pr rep) (n + 3) 3 [.tup ds, .int 0, .int (m - 1)] h = .ok (.bl false) h := fun ds h1 h2 => by rw [is_rising _ _ _ h1, h2]
  have k1 : ¬ m ≤ m - 1 := by omega
  rcases hd with rfl | rfl | rfl | rfl | rfl | rfl | rfl | rfl | rfl | rfl
  · exact is_rising_no _ _ _ rfl rfl
  · exact is_rising_no _ _ _ rfl rfl
  · exact is_rising_no _ _ _ rfl rfl
  · exact t _ (by simp [ask]) (by simp [isR, isW, k1])
  · exact t _ (by simp [ask]) (by simp [isR, isW, ups])
  · exact t _ (by simp [ask]) (by simp [isR, isW, ups])
  · exact t _ (by simp [ask]) (by simp [isR, isW])
  · exact t _ (by simp [ask]) (by simp [isR, isW])
  · exact t _ (by simp [ask]) (by simp [isR, isW])
  · exact t _ (by simp [ask]) (by simp [isR, isW, k1])
end K16
end
section
set_option autoImplicit false
set_option linter.all false
set_option maxRecDepth 10000
open Mi
namespace K16
variable {rep : D → List Nat} {n : Nat} {h : AH} {w r : Nat} {c : Int} {ss : List (Int × Int)}
theorem up_len {m : Nat} : ∀ {st : List Nat} {a : Nat}, st.Pairwise (· < ·) → (∀ k ∈ st, a ≤ k ∧ k < m) → a ≤ m → st.length + a ≤ m
  | [], a, _, _, h => by simpa using h
  | x :: st, a, hp, hs, h => by
    rw [List.pairwise_cons] at hp
    obtain ⟨h1, h2⟩ := hs x List.mem_cons_self
    have := up_len (st := st) (a := x + 1) hp.2 (fun k hk => ⟨hp.1 k hk, (hs k (List.mem_cons_of_mem _ hk)).2⟩) h2
    rw [List.length_cons]
    omega
theorem okT_len {st : List Nat} (hs : okT ss st) : st.length ≤ ss.length := by
  have := up_len (a := 0) hs.1 (fun k hk => ⟨Nat.zero_le k, hs.2 k hk⟩) (Nat.zero_le _)
  omega
theorem dedup_len : ∀ xs : List Int, (dedupI xs).length ≤ xs.length
  | [] => Nat.le_refl _
  | x :: xs => by
    rw [dedupI]
    have := dedup_len xs
    split <;> simp <;> omega
theorem allE_len (st : List Nat) : (allE ss st).length ≤ 2 * st.length := by
  unfold allE
  induction st with
  | nil => simp
  | cons k st ih =>
    have : (ends1 ss k).length ≤ 2 := by
      unfold ends1 epts
      exact List.length_filter_le _ _
    simp only [List.flatMap_cons, List.length_append, List.length_cons]
    omega
theorem allE_in (hv : ∀ p ∈ ss, okS c p) {st : List Nat} (hs : okT ss st) : ∀ e ∈ allE ss st, 0 ≤ e ∧ e < c := by
  intro e he
  unfold allE at he
  obtain ⟨k, hk, hk2⟩ := List.mem_flatMap.mp he
  exact ends1_ok hv (hs.2 k hk) e hk2
/-- an order of the open coins -/
structure Ord (c : Int) (ss : List (Int × Int)) (st : List Nat) (o : List Int) : Prop where
  nd : o.Nodup
  mem : ∀ k, k ∈ o ↔ k ∈ allE ss st
  len : o.length ≤ 16
  bd : ∀ k ∈ o, 0 ≤ k ∧ k < c
theorem Ord.srt {st : List Nat} {o : List Int} (q : Ord c ss st o) (hc : 0 ≤ c) (hv : ∀ p ∈ ss, okS c p) (hs : okT ss st) : sortI o = sortI (opens c (allE ss st)) :=
  sortI_congr (perm_of_mem q.nd (opens_nodup c _) fun k => (q.mem k).trans (mem_opens hc (allE_in hv hs) k).symm)
theorem srt_perm {xs ys : List Int} (h : sortI xs = sortI ys) : xs.Perm ys := (sortI_perm' xs).symm.trans (h ▸ sortI_perm' ys)
/-- not this list -/
theorem no_of {st : List Nat} {o xs : List Int} (q : Ord c ss st o) (hc : 0 ≤ c) (hv : ∀ p ∈ ss, okS c p) (hs : okT ss st) (hn : ¬ xs.Perm o) : noOrd c (allE ss st) (.tup (xs.map .int)) := by
  refine .inr ⟨_, rfl, ask_int, ?_⟩
  have tm : (xs.map D.int).map toI = xs := by
    rw [List.map_map]
    exact List.map_id _
  rw [tm, ← q.srt hc hv hs, decide_eq_false (fun z => hn (srt_perm z)), Bool.and_false]
theorem no_nonint {st : List Nat} {ds : List D} (ha : ∀ x ∈ ds, ask x = true) {x : D} (hx : x ∈ ds) (hi : isI x = false) : noOrd c (allE ss st) (.tup ds) := by
  refine .inr ⟨ds, rfl, ha, ?_⟩
  have : ds.all isI = false := by
    rw [List.all_eq_false]
    exact ⟨x, hx, by simp [hi]⟩
  rw [this]
  rfl
def wrongs (o : List Int) : List D := [.tup (o.map .int ++ [.int 9]), .tup (o.map .int ++ o.map .int), .lst (o.map .int), .tup ((o.map .int).tail ++ [.int (-1)]), .non, .tup [.str w0], .tup (o.map .int ++ [.bl true])]
theorem els {o : List Int} (h : ∀ k ∈ o, 0 ≤ k ∧ k < 10) : ∀ x ∈ o.map D.int, El x := by
  intro x hx
  obtain ⟨i, hi, rfl⟩ := List.mem_map.mp hx
  exact El_int (by have := h i hi; omega)
theorem els_app {a b : List D} (h1 : ∀ x ∈ a, El x) (h2 : ∀ x ∈ b, El x) : ∀ x ∈ a ++ b, El x := by
  intro x hx
  rcases List.mem_append.mp hx with z | z
  · exact h1 x z
  · exact h2 x z
theorem els_one {x : D} (h : El x) : ∀ y ∈ [x], El y := fun y hy => by rw [List.mem_singleton.mp hy]; exact h
theorem wrong_ok {st : List Nat} {o : List Int} (q : Ord c ss st o) (hc : 0 ≤ c) (hc5 : c ≤ 5) (hv : ∀ p ∈ ss, okS c p) (hs : okT ss st) : ∀ d ∈ wrongs o, ask d = true ∧ smB (.tup [.str wOr, d]) = true ∧ (d = .tup (o.map .int) ∨ noOrd c (allE ss st) d) := by
  have qo : wOr ∈ wordsK := by decide
  have he : ∀ x ∈ o.map D.int, El x := els fun k hk => by have := q.bd k hk; omega
  have hl := q.len
  have hlm : (o.map D.int).length = o.length := List.length_map _
  have ad : ∀ x ∈ o.map D.int, ask x = true := ask_int
  intro d hd
  simp only [wrongs, List.mem_cons, List.not_mem_nil, or_false] at hd
  rcases hd with rfl | rfl | rfl | rfl | rfl | rfl | rfl
  · refine ⟨rfl, (sm_seq (els_app he (els_one (El_int (by decide)))) (by simp; omega)).1 _ qo, .inr ?_⟩
    have := no_of (xs := o ++ [9]) q hc hv hs (fun z => by have := z.length_eq; simp at this)
    simpa using this
  · refine ⟨rfl, (sm_seq (els_app he he) (by simp; omega)).1 _ qo, ?_⟩
    by_cases e : o = []
    · subst e
      exact .inl rfl
    · refine .inr ?_
      have := no_of (xs := o ++ o) q hc hv hs (fun z => by
        have := z.length_eq
        rw [List.length_append] at this
        exact e (List.length_eq_zero_iff.mp (by omega)))
      simpa using this
  · exact ⟨rfl, (sm_seq he (by omega)).2 _ qo, .inr (.inl rfl)⟩
  · have ht : ∀ x ∈ (o.map D.int).tail, El x := fun x hx => he x (List.mem_of_mem_tail hx)
    refine ⟨rfl, (sm_seq (els_app ht (els_one (El_int (by decide)))) (by simp; omega)).1 _ qo, .inr ?_⟩
    have := no_of (xs := o.tail ++ [-1]) q hc hv hs (fun z => by
      have := (q.bd (-1) (z.mem_iff.mp (by simp))).1
      omega)
    simpa using this
  · exact ⟨rfl, by decide, .inr (.inl rfl)⟩
  · exact ⟨rfl, by decide, .inr (no_nonint (x := .str w0) (by simp [ask]) (by simp) rfl)⟩
  · refine ⟨rfl, (sm_seq (els_app he (els_one ⟨rfl, rfl, rfl, rfl⟩)) (by simp; omega)).1 _ qo, .inr (no_nonint (x := .bl true) (fun x hx => ?_) (by simp) rfl)⟩
    rcases List.mem_append.mp hx with z | z
    · exact ad x z
    · rw [List.mem_singleton.mp z]; rfl
end K16
end
section
set_option autoImplicit false
set_option linter.all false
set_option maxRecDepth 10000
open Mi
namespace K16
variable {rep : D → List Nat} {n : Nat} {h : AH} {w r : Nat} {c : Int} {ss : List (Int × Int)}
def env12 (x0 x1 x2 x3 x4 x5 : D) (a b d e f g : MSlot) : MEnv := [.v x0, .v x1, .v x2, .v x3, .v x4, .v x5, a, b, d, e, f, g]
section
variable {G0 : G} {K : CallT} {h h' : AH} {x0 x1 x2 x3 x4 x5 x6 x7 x8 x9 : D} {y z o p : D} {a b e f g d : MSlot}
theorem g_st1 (e0 : cmpD .gt x6 (.int 0) h = some (.bl true)) (e1 : binD .shl (.int 1) x5 = some y) (e2 : K 18 [x1, y] h = .ok z h') (e3 : K 23 [z, x5] h' = .ok o h') :
    evS G0 K (.set 7 (.ife (.e (.cmp .gt (.v 6) (.c (.int 0)))) (.call 23 (.cons (.call 18 (.cons (.v 1) (.cons (.bin .shl (.c (.int 1)) (.v 5)) .nil))) (.cons (.v 5) .nil))) (.bit .tuple (.r1 (.v 5))))) (env12 x0 x1 x2 x3 x4 x5 (.v x6) b d e f g) h =
      .ok (.nx (env12 x0 x1 x2 x3 x4 x5 (.v x6) (.v o) d e f g)) h' := by
  simp [env12, evSs, evS, evE, evEs, evPs, evB, evF, evI, evOB, evO, evV, startEnv, endFl, isOwn, ownI, bindT, bindTs, wipe, parOk, bindP, itD, e0, e1, e2, e3]
theorem g_o (e1 : K 27 [x3, x7] h = .ok y h) (e2 : K 30 [x1, y] h = .ok o h') :
    evS G0 K (.set 8 (.call 30 (.cons (.v 1) (.cons (.call 27 (.cons (.v 3) (.cons (.v 7) .nil))) .nil)))) (env12 x0 x1 x2 x3 x4 x5 a (.v x7) d e f g) h = .ok (.nx (env12 x0 x1 x2 x3 x4 x5 a (.v x7) (.v o) e f g)) h' := by
  simp [env12, evSs, evS, evE, evEs, evPs, evB, evF, evI, evOB, evO, evV, startEnv, endFl, isOwn, ownI, bindT, bindTs, wipe, parOk, bindP, itD, e1, e2]
theorem g_code (e1 : K 17 [x4, x7, x8] h = .ok y h) (e2 : K 29 [x3, x7, x8] h = .ok z h) (e3 : K 20 [y, z] h = .ok (.bl true) h) :
    evS G0 K (.iff (.not (.e (.call 20 (.cons (.call 17 (.cons (.v 4) (.cons (.v 7) (.cons (.v 8) .nil)))) (.cons (.call 29 (.cons (.v 3) (.cons (.v 7) (.cons (.v 8) .nil)))) .nil))))) (.cons (.ret (.c (.bl false))) .nil) .nil) (env12 x0 x1 x2 x3 x4 x5 a (.v x7) (.v x8) e f g) h =
      .ok (.nx (env12 x0 x1 x2 x3 x4 x5 a (.v x7) (.v x8) e f g)) h := by
  simp [env12, evSs, evS, evE, evEs, evPs, evB, evF, evI, evOB, evO, evV, startEnv, endFl, isOwn, ownI, bindT, bindTs, wipe, parOk, bindP, itD, e1, e2, e3]
theorem g_call (i : Nat) (e1 : K 17 [x4, x7, x9] h = R.ok y h) : evE G0 K (.call 17 (.cons (.v 4) (.cons (.v 7) (.cons (.v 9) .nil)))) (env12 x0 x1 x2 x3 x4 x5 a (.v x7) d (.v x9) f g) h = .ok y h := by
  simp [env12, evSs, evS, evE, evEs, evPs, evB, evF, evI, evOB, evO, evV, startEnv, endFl, isOwn, ownI, bindT, bindTs, wipe, parOk, bindP, itD, e1]
theorem g_exc {c : Nat} (e1 : K 17 [x4, x7, x9] h = R.exc c y h) : evE G0 K (.call 17 (.cons (.v 4) (.cons (.v 7) (.cons (.v 9) .nil)))) (env12 x0 x1 x2 x3 x4 x5 a (.v x7) d (.v x9) f g) h = .exc c y h := by
  simp [env12, evSs, evS, evE, evEs, evPs, evB, evF, evI, evOB, evO, evV, startEnv, endFl, isOwn, ownI, bindT, bindTs, wipe, parOk, bindP, itD, e1]
theorem g_w {O : List D} {y1 y2 y4 y7 : D} (b1 : binD .add x8 (.tup [.int 9]) = some y1) (b2 : binD .add x8 x8 = some y2) (b3 : asS x8 h = some O) (s1 : slD x8 (some (.int 1)) none h = some y) (b4 : binD .add y (.tup [.int (-1)]) = some y4) (b7 : binD .add x8 (.tup [.bl true]) = some y7)
    (e1 : K 19 [x1, .lst [y1, y2, .lst O, y4, .non, .tup [.str w0], y7]] h = .ok o h') :
    evS G0 K (.set 9 (.call 19 (.cons (.v 1) (.cons (.fr (.lst (.cons (.bin .add (.v 8) (.tup (.cons (.c (.int 9)) .nil))) (.cons (.bin .add (.v 8) (.v 8)) (.cons (.fr (.of (.e (.v 8)))) (.cons (.bin .add (.sl (.v 8) (some (.c (.int 1))) none) (.tup (.cons (.bin .sub (.c (.int 0)) (.c (.int 1))) .nil))) (.cons (.c .non) (.cons (.tup (.cons (.c (.str [48])) .nil)) (.cons (.bin .add (.v 8) (.tup (.cons (.c (.bl true)) .nil))) .nil))))))))) .nil)))) (env12 x0 x1 x2 x3 x4 x5 a b (.v x8) e f g) h =
      .ok (.nx (env12 x0 x1 x2 x3 x4 x5 a b (.v x8) (.v o) f g)) h' := by
  unfold w0 at e1
  simp [env12, evSs, evS, evE, evEs, evPs, evB, evF, evI, evOB, evO, evV, startEnv, endFl, isOwn, ownI, bindT, bindTs, wipe, parOk, bindP, itD, b1, b2, b3, b4, b7, s1, e1]
theorem g_ne (e : cmpD .ne x9 x8 h = some y) : evE G0 K (.cmp .ne (.v 9) (.v 8)) (env12 x0 x1 x2 x3 x4 x5 a b (.v x8) (.v x9) f g) h = .ok y h := by
  simp [env12, evE, e]
theorem g_st0 {xs : List D} (e0 : cmpD .gt x6 (.int 0) h = some (.bl false)) (e1 : evI G0 K (.r1 (.v 5)) (env12 x0 x1 x2 x3 x4 x5 (.v x6) b d e f g) h = .ok (xs, none) h) :
    evS G0 K (.set 7 (.ife (.e (.cmp .gt (.v 6) (.c (.int 0)))) (.call 23 (.cons (.call 18 (.cons (.v 1) (.cons (.bin .shl (.c (.int 1)) (.v 5)) .nil))) (.cons (.v 5) .nil))) (.bit .tuple (.r1 (.v 5))))) (env12 x0 x1 x2 x3 x4 x5 (.v x6) b d e f g) h =
      .ok (.nx (env12 x0 x1 x2 x3 x4 x5 (.v x6) (.v (.tup xs)) d e f g)) h := by
  have e2 : evB G0 K (.e (.cmp .gt (.v 6) (.c (.int 0)))) (env12 x0 x1 x2 x3 x4 x5 (.v x6) b d e f g) h = .ok false h := by
    simp [env12, evSs, evS, evE, evEs, evPs, evB, evF, evI, evOB, evO, evV, startEnv, endFl, isOwn, ownI, bindT, bindTs, wipe, parOk, bindP, itD, e0]
  rw [evS, evV]
  simp only [isOwn, Bool.false_eq_true, if_false]
  rw [evE, e2]
  simp only [bind_ok, isOwn, Bool.false_eq_true, if_false]
  rw [evE, e1]
  simp [env12]
end
def envL (L : D) (c : Int) (ss : List (Int × Int)) (a b d e f g : MSlot) : MEnv := env12 L (.ref 0) (.int c) (.lst (ss.map sd)) (.ref 1) (.int (ss.length : Int)) a b d e f g
theorem shl1 {k : Nat} (hk : k ≤ 100) : binD .shl (.int 1) (.int (k : Int)) = some (.int (2 ^ k)) := by
  have h1 : (0 : Int) ≤ k ∧ (k : Int) ≤ 1000000 ∧ (1 : Int).natAbs < big.natAbs := ⟨by omega, by omega, by decide⟩
  simp only [binD]
  rw [if_pos h1]
  simp
theorem turn_st {ns : List Int} {L : D} {t : Nat} {b d e f g : MSlot} (hr : Row ns 0 h) (h8 : ss.length ≤ 8) : ∃ st h', okT ss st ∧ Row ns 0 h' ∧ Stay 0 h h' ∧
    evS (pr rep) (callD (pr rep) 50) (.set 7 (.ife (.e (.cmp .gt (.v 6) (.c (.int 0)))) (.call 23 (.cons (.call 18 (.cons (.v 1) (.cons (.bin .shl (.c (.int 1)) (.v 5)) .nil))) (.cons (.v 5) .nil))) (.bit .tuple (.r1 (.v 5))))) (envL L c ss (.v (nI t)) b d e f g) h =
      .ok (.nx (envL L c ss (.v (nI t)) (.v (.tup (st.map nI))) d e f g)) h' := by
  by_cases q : t = 0
  · subst q
    refine ⟨List.range ss.length, h, ⟨List.pairwise_lt_range, fun k hk => List.mem_range.mp hk⟩, hr, .refl _ _, ?_⟩
    have e1 : evI (pr rep) (callD (pr rep) 50) (.r1 (.v 5)) (envL L c ss (.v (nI 0)) b d e f g) h = .ok ((List.range ss.length).map nI, none) h := rng (by omega) rfl
    exact g_st0 rfl e1
  · have p2 : (1 : Int) ≤ 2 ^ ss.length := by
      have : 0 < (2 : Int) ^ ss.length := Int.pow_pos (by decide)
      omega
    have p3 : ((2 : Int) ^ ss.length) < 1073741824 := by
      have : (2 : Nat) ^ ss.length ≤ 2 ^ 8 := Nat.pow_le_pow_right (by decide) h8
      have h3 : ((2 ^ ss.length : Nat) : Int) = (2 : Int) ^ ss.length := by push_cast; rfl
      rw [← h3]
      omega
    obtain ⟨v, h', v0, v1, r1, st1, e1⟩ := take1 (rep := rep) (n := 49) hr p2 p3
    obtain ⟨st, s1, s2, e2⟩ := numbers (rep := rep) (n := 49) (h := h') (m := v) (many := (ss.length : Int)) (by omega) (by omega)
    refine ⟨st, h', ⟨s1, fun k hk => by have := s2 k hk; omega⟩, r1, st1, ?_⟩
    exact g_st1 (by rw [nI, cmp_gt_int, decide_eq_true (by omega)]) (shl1 (by omega)) e1 e2
theorem turn_o {ns : List Int} {L : D} {t : Nat} {d e f g : MSlot} {st : List Nat} (hr : Row ns 0 h) (h8 : ss.length ≤ 8) (hv : ∀ p ∈ ss, okS c p) (hs : okT ss st) : ∃ o h', Ord c ss st o ∧ Row ns 0 h' ∧ Stay 0 h h' ∧
    evS (pr rep) (callD (pr rep) 50) (.set 8 (.call 30 (.cons (.v 1) (.cons (.call 27 (.cons (.v 3) (.cons (.v 7) .nil))) .nil)))) (envL L c ss (.v (nI t)) (.v (.tup (st.map nI))) d e f g) h =
      .ok (.nx (envL L c ss (.v (nI t)) (.v (.tup (st.map nI))) (.v (.tup (o.map .int))) e f g)) h' := by
  have hl := okT_len hs
  have hx := allE_len (ss := ss) st
  have hd := dedup_len (allE ss st)
  have hp := (sortI_perm' (dedupI (allE ss st))).length_eq
  have e1 : callD (pr rep) 50 27 [.lst (ss.map sd), .tup (st.map nI)] h = .ok (.lst ((sortI (dedupI (allE ss st))).map .int)) h := law_coins (n := 48) hs.2 hv (by omega)
  obtain ⟨o, h', o1, o2, o3, o4⟩ := shuffled (rep := rep) (n := 47) hr (sort_dedup_nodup (allE ss st)) (by omega)
  have mem : ∀ k, k ∈ o ↔ k ∈ allE ss st := fun k => o1.mem_iff.trans (mem_sort_dedup _ _)
  refine ⟨o, h', ⟨o1.nodup_iff.mpr (sort_dedup_nodup _), mem, by have := o1.length_eq; omega, fun k hk => allE_in hv hs k ((mem k).mp hk)⟩, o2, o3, ?_⟩
  have o5 : callD (pr rep) 50 30 [.ref 0, .lst ((sortI (dedupI (allE ss st))).map .int)] h = .ok (.tup (o.map .int)) h' := o4
  exact g_o e1 o5
theorem turn_code {L : D} {t : Nat} {e f g : MSlot} {st : List Nat} {o : List Int} (hw : h[1]? = some (webO c ss)) (h8 : ss.length ≤ 8) (hc : 0 ≤ c) (hc9 : c ≤ 5) (hv : ∀ p ∈ ss, okS c p) (hs : okT ss st) (q : Ord c ss st o) :
    evS (pr rep) (callD (pr rep) 50) (.iff (.not (.e (.call 20 (.cons (.call 17 (.cons (.v 4) (.cons (.v 7) (.cons (.v 8) .nil)))) (.cons (.call 29 (.cons (.v 3) (.cons (.v 7) (.cons (.v 8) .nil)))) .nil))))) (.cons (.ret (.c (.bl false))) .nil) .nil) (envL L c ss (.v (nI t)) (.v (.tup (st.map nI))) (.v (.tup (o.map .int))) e f g) h =
      .ok (.nx (envL L c ss (.v (nI t)) (.v (.tup (st.map nI))) (.v (.tup (o.map .int))) e f g)) h := by
  have hl := okT_len hs
  have hlo := q.len
  have e1 : callD (pr rep) 50 17 [.ref 1, .tup (st.map nI), .tup (o.map .int)] h = .ok (codeD (cnt ss st) o) h := code_of (n := 43) hw hc (by omega) hv hs (by unfold most; omega) (by unfold most; omega) (q.srt hc hv hs)
  have e2 : callD (pr rep) 50 29 [.lst (ss.map sd), .tup (st.map nI), .tup (o.map .int)] h = .ok (codeD (cnt ss st) o) h := law_code (n := 48) hs.2 (fun a ha => (q.bd a ha).1) (by omega)
  have e3 : callD (pr rep) 50 20 [codeD (cnt ss st) o, codeD (cnt ss st) o] h = .ok (.bl true) h := alike_code (n := 47) _ _ (by omega)
  exact g_code e1 e2 e3
theorem turn_w {ns : List Int} {L : D} {t : Nat} {e f g : MSlot} {x : D} {o : List Int} (hr : Row ns 0 h) (hl : o.length ≤ 16) : ∃ d h', d ∈ wrongs o ∧ Row ns 0 h' ∧ Stay 0 h h' ∧
    evS (pr rep) (callD (pr rep) 50) (.set 9 (.call 19 (.cons (.v 1) (.cons (.fr (.lst (.cons (.bin .add (.v 8) (.tup (.cons (.c (.int 9)) .nil))) (.cons (.bin .add (.v 8) (.v 8)) (.cons (.fr (.of (.e (.v 8)))) (.cons (.bin .add (.sl (.v 8) (some (.c (.int 1))) none) (.tup (.cons (.bin .sub (.c (.int 0)) (.c (.int 1))) .nil))) (.cons (.c .non) (.cons (.tup (.cons (.c (.str [48])) .nil)) (.cons (.bin .add (.v 8) (.tup (.cons (.c (.bl true)) .nil))) .nil))))))))) .nil)))) (envL L c ss (.v (nI t)) (.v x) (.v (.tup (o.map .int))) e f g) h =
      .ok (.nx (envL L c ss (.v (nI t)) (.v x) (.v (.tup (o.map .int))) (.v d) f g)) h' := by
  obtain ⟨d, h', d1, d2, d3, d4⟩ := pick (rep := rep) (n := 48) (xs := wrongs o) hr (by simp [wrongs]) (by simp [wrongs])
  refine ⟨d, h', d1, d2, d3, ?_⟩
  have d5 : callD (pr rep) 50 19 [.ref 0, .lst (wrongs o)] h = .ok d h' := d4
  have b1 : binD .add (.tup (o.map .int)) (.tup [.int 9]) = some (.tup (o.map .int ++ [.int 9])) := by
    simp only [binD, List.length_map]
    rw [if_pos (by unfold most; simp; omega)]
  have b2 : binD .add (.tup (o.map .int)) (.tup (o.map .int)) = some (.tup (o.map .int ++ o.map .int)) := by
    simp only [binD, List.length_map]
    rw [if_pos (by unfold most; omega)]
  have b3 : binD .add (.tup (o.map D.int).tail) (.tup [.int (-1)]) = some (.tup ((o.map .int).tail ++ [.int (-1)])) := by
    simp only [binD, List.length_tail, List.length_map]
    rw [if_pos (by unfold most; simp; omega)]
  have b4 : binD .add (.tup (o.map .int)) (.tup [.bl true]) = some (.tup (o.map .int ++ [.bl true])) := by
    simp only [binD, List.length_map]
    rw [if_pos (by unfold most; simp; omega)]
  have s1 : ∀ h, slD (.tup (o.map D.int)) (some (.int 1)) none h = some (.tup (o.map D.int).tail) := fun h => by
    have := slD_tup (o.map D.int) (some 1) none h
    rw [cut1] at this
    exact this
  exact g_w b1 b2 rfl (s1 _) b3 b4 d5
theorem turn_no (ro : RepOk rep wordsK) {L : D} {t : Nat} {f g : MSlot} {d : D} {st : List Nat} {o : List Int} (hw : h[1]? = some (webO c ss)) (h8 : ss.length ≤ 8) (hc : 0 ≤ c) (hc5 : c ≤ 5) (hv : ∀ p ∈ ss, okS c p) (hs : okT ss st) (q : Ord c ss st o) (hd : d ∈ wrongs o) :
    evS (pr rep) (callD (pr rep) 50) (.iff (.and (.e (.cmp .ne (.bi .repr (.cons (.rf 0 (.call 17 (.cons (.v 4) (.cons (.v 7) (.cons (.v 9) .nil))))) .nil)) (.bi .repr (.cons (.tup (.cons (.c (.str [111, 114, 100, 101, 114])) (.cons (.v 9) .nil))) .nil)))) (.e (.cmp .ne (.v 9) (.v 8)))) (.cons (.ret (.c (.bl false))) .nil) .nil) (envL L c ss (.v (nI t)) (.v (.tup (st.map nI))) (.v (.tup (o.map .int))) (.v d) f g) h =
      .ok (.nx (envL L c ss (.v (nI t)) (.v (.tup (st.map nI))) (.v (.tup (o.map .int))) (.v d) f g)) h := by
  obtain ⟨a1, a2, a3⟩ := wrong_ok q hc hc5 hv hs d hd
  have hl := okT_len hs
  have hlo := q.len
  have ob : ∀ b, evB (pr rep) (callD (pr rep) 50) (.and (.e (.cmp .ne (.bi .repr (.cons (.rf 0 (.call 17 (.cons (.v 4) (.cons (.v 7) (.cons (.v 9) .nil))))) .nil)) (.bi .repr (.cons (.tup (.cons (.c (.str [111, 114, 100, 101, 114])) (.cons (.v 9) .nil))) .nil)))) (.e (.cmp .ne (.v 9) (.v 8)))) (envL L c ss (.v (nI t)) (.v (.tup (st.map nI))) (.v (.tup (o.map .int))) (.v d) f g) h = .ok b h → b = false → evS (pr rep) (callD (pr rep) 50) (.iff (.and (.e (.cmp .ne (.bi .repr (.cons (.rf 0 (.call 17 (.cons (.v 4) (.cons (.v 7) (.cons (.v 9) .nil))))) .nil)) (.bi .repr (.cons (.tup (.cons (.c (.str [111, 114, 100, 101, 114])) (.cons (.v 9) .nil))) .nil)))) (.e (.cmp .ne (.v 9) (.v 8)))) (.cons (.ret (.c (.bl false))) .nil) .nil) (envL L c ss (.v (nI t)) (.v (.tup (st.map nI))) (.v (.tup (o.map .int))) (.v d) f g) h =
      .ok (.nx (envL L c ss (.v (nI t)) (.v (.tup (st.map nI))) (.v (.tup (o.map .int))) (.v d) f g)) h := by
    intro b hb e
    subst e
    rw [evS, hb]
    simp [evSs]
  refine ob false ?_ rfl
  have ex : evE (pr rep) (callD (pr rep) 50) (.v 9) (envL L c ss (.v (nI t)) (.v (.tup (st.map nI))) (.v (.tup (o.map .int))) (.v d) f g) h = .ok d h := rfl
  rcases a3 with rfl | a3
  · have e1 : callD (pr rep) 50 17 [.ref 1, .tup (st.map nI), .tup (o.map .int)] h = .ok (codeD (cnt ss st) o) h := code_of (n := 43) hw hc (by omega) hv hs (by unfold most; omega) (by unfold most; omega) (q.srt hc hv hs)
    have e2 : evE (pr rep) (callD (pr rep) 50) (.call 17 (.cons (.v 4) (.cons (.v 7) (.cons (.v 9) .nil)))) (envL L c ss (.v (nI t)) (.v (.tup (st.map nI))) (.v (.tup (o.map .int))) (.v (.tup (o.map .int))) f g) h = .ok (codeD (cnt ss st) o) h := by
      exact g_call 0 e1
    obtain ⟨b, e3⟩ := refuse_ok ro e2 ex a2 rfl
    unfold wOr at e3
    have e4 : ∀ h, cmpD .ne (.tup (o.map .int)) (.tup (o.map .int)) h = some (.bl false) := fun h => by
      simp only [cmpD, cmpable_tupI, and_self, if_true, D.eqv, eqvs_int]
      simp
    have e5 : evE (pr rep) (callD (pr rep) 50) (.cmp .ne (.v 9) (.v 8)) (envL L c ss (.v (nI t)) (.v (.tup (st.map nI))) (.v (.tup (o.map .int))) (.v (.tup (o.map .int))) f g) h = .ok (.bl false) h := by
      exact g_ne (e4 h)
    rw [evB, evB, e3]
    simp only [bind_ok, truD_bl, ofO_some]
    cases b
    · rfl
    · simp only [evB]
      rw [e5]
      rfl
  · have e1 : callD (pr rep) 50 17 [.ref 1, .tup (st.map nI), d] h = .exc 6 d h := code_of_no (n := 43) hw hc (by omega) hv hs a1 a3
    have e2 : evE (pr rep) (callD (pr rep) 50) (.call 17 (.cons (.v 4) (.cons (.v 7) (.cons (.v 9) .nil)))) (envL L c ss (.v (nI t)) (.v (.tup (st.map nI))) (.v (.tup (o.map .int))) (.v d) f g) h = .exc 6 d h := by
      exact g_exc e1
    have e3 := refuse ro e2 ex (word := wOr) rfl a2 rfl false
    simp only [Bool.false_eq_true, if_false] at e3
    unfold wOr at e3
    rw [evB, evB, e3]
    rfl
end K16
end
section
set_option autoImplicit false
set_option linter.all false
set_option maxRecDepth 10000
open Mi
namespace K16
def envM (a0 a1 a2 a3 a4 a5 a6 a7 a8 a9 a10 a11 : MSlot) : MEnv := [a0, a1, a2, a3, a4, a5, a6, a7, a8, a9, a10, a11]
section
variable {G0 : G} {K : CallT} {h h' h2 : AH} {x0 x1 x2 x3 x4 x5 x6 x7 x8 x9 x10 x11 : D} {y z o p : D} {a0 a1 a2 a3 a4 a5 a6 a7 a8 a9 a10 a11 : MSlot} {a b e f g d : MSlot}
theorem g1 : evS G0 K (.set 1 (.al (.lst (.cons (.v 0) (.cons (.c (.int 0)) (.cons (.c (.int 313)) (.cons (.c (.int 0)) .nil))))))) (envM (.v x0) a1 a2 a3 a4 a5 a6 a7 a8 a9 a10 a11) h = .ok (.nx (envM (.v x0) (.v (.ref h.length)) a2 a3 a4 a5 a6 a7 a8 a9 a10 a11)) (h ++ [.lst [x0, .int 0, .int 313, .int 0]]) := by
  simp [envM, evSs, evS, evE, evEs, evPs, evB, evF, evI, evOB, evO, evV, startEnv, endFl, isOwn, ownI, bindT, bindTs, wipe, parOk, bindP, itD, objD]
theorem g2 {v : Int} (e : K 18 [x1, .int 5] h = .ok (.int v) h') : evS G0 K (.set 2 (.bin .add (.c (.int 1)) (.call 18 (.cons (.v 1) (.cons (.c (.int 5)) .nil))))) (envM a0 (.v x1) a2 a3 a4 a5 a6 a7 a8 a9 a10 a11) h = .ok (.nx (envM a0 (.v x1) (.v (.int (1 + v))) a3 a4 a5 a6 a7 a8 a9 a10 a11)) h' := by
  simp [envM, evSs, evS, evE, evEs, evPs, evB, evF, evI, evOB, evO, evV, startEnv, endFl, isOwn, ownI, bindT, bindTs, wipe, parOk, bindP, itD, e]
theorem g3 (e : K 22 [x1, x2, .int 8] h = .ok y h') : evS G0 K (.set 3 (.call 22 (.cons (.v 1) (.cons (.v 2) (.cons (.c (.int 8)) .nil))))) (envM a0 (.v x1) (.v x2) a3 a4 a5 a6 a7 a8 a9 a10 a11) h = .ok (.nx (envM a0 (.v x1) (.v x2) (.v y) a4 a5 a6 a7 a8 a9 a10 a11)) h' := by
  simp [envM, evSs, evS, evE, evEs, evPs, evB, evF, evI, evOB, evO, evV, startEnv, endFl, isOwn, ownI, bindT, bindTs, wipe, parOk, bindP, itD, e]
theorem g4 (e : newD G0 K 0 [x2, x3] h = .ok y h') (l : biD G0 .len [x3] h' = some z) : evS G0 K (.unp (.t [(.v 4), (.v 5)]) (.tup (.cons (.new 0 (.cons (.v 2) (.cons (.v 3) .nil))) (.cons (.bi .len (.cons (.v 3) .nil)) .nil)))) (envM a0 a1 (.v x2) (.v x3) a4 a5 a6 a7 a8 a9 a10 a11) h = .ok (.nx (envM a0 a1 (.v x2) (.v x3) (.v y) (.v z) a6 a7 a8 a9 a10 a11)) h' := by
  simp [envM, evSs, evS, evE, evEs, evPs, evB, evF, evI, evOB, evO, evV, startEnv, endFl, isOwn, ownI, bindT, bindTs, wipe, parOk, bindP, itD, e, l]
theorem g6a (q0 : cmpD .ne x8 (.tup []) h = some (.bl false)) {q : B} : evS G0 K (.iff (.and (.e (.cmp .ne (.v 8) (.tup .nil))) q) (.cons (.ret (.c (.bl false))) .nil) .nil) (env12 x0 x1 x2 x3 x4 x5 a b (.v x8) e f g) h = .ok (.nx (env12 x0 x1 x2 x3 x4 x5 a b (.v x8) e f g)) h := by
  simp [env12, evS, evB, evE, evEs, evSs, q0]
theorem g6b {q : E} (q0 : cmpD .ne x8 (.tup []) h = some (.bl true)) (e2 : evE G0 K q (env12 x0 x1 x2 x3 x4 x5 a b (.v x8) e f g) h = .ok (.bl false) h) : evS G0 K (.iff (.and (.e (.cmp .ne (.v 8) (.tup .nil))) (.e q)) (.cons (.ret (.c (.bl false))) .nil) .nil) (env12 x0 x1 x2 x3 x4 x5 a b (.v x8) e f g) h = .ok (.nx (env12 x0 x1 x2 x3 x4 x5 a b (.v x8) e f g)) h := by
  have e1 : evE G0 K (.cmp .ne (.v 8) (.tup .nil)) (env12 x0 x1 x2 x3 x4 x5 a b (.v x8) e f g) h = .ok (.bl true) h := by
    simp [env12, evE, evEs, q0]
  simp [evS, evB, e1, e2, evSs]
theorem g7 (e1 : K 25 [x1, x5] h = .ok y h') (e2 : K 24 [x1] h' = .ok z h2) : evS G0 K (.unp (.t [(.v 10), (.v 11)]) (.tup (.cons (.call 25 (.cons (.v 1) (.cons (.v 5) .nil))) (.cons (.call 24 (.cons (.v 1) .nil)) .nil)))) (env12 x0 x1 x2 x3 x4 x5 a b d e f g) h = .ok (.nx (env12 x0 x1 x2 x3 x4 x5 a b d e (.v y) (.v z))) h2 := by
  simp [env12, evSs, evS, evE, evEs, evPs, evB, evF, evI, evOB, evO, evV, startEnv, endFl, isOwn, ownI, bindT, bindTs, wipe, parOk, bindP, itD, e1, e2]
theorem g8 {q : E} {en : MEnv} (e2 : evE G0 K q en h = .ok (.bl false) h) : evS G0 K (.iff (.e q) (.cons (.ret (.c (.bl false))) .nil) .nil) en h = .ok (.nx en) h := by
  simp [evS, evB, e2, evSs]
theorem g_c6 {c : Nat} (s1 : slD x8 (some (.int 1)) none h = some p) (e1 : K 17 [x4, x7, p] h = R.exc c y h) : evE G0 K (.call 17 (.cons (.v 4) (.cons (.v 7) (.cons (.sl (.v 8) (some (.c (.int 1))) none) .nil)))) (env12 x0 x1 x2 x3 x4 x5 a (.v x7) (.v x8) e f g) h = .exc c y h := by
  simp [env12, evSs, evS, evE, evEs, evPs, evB, evF, evI, evOB, evO, evV, startEnv, endFl, isOwn, ownI, bindT, bindTs, wipe, parOk, bindP, itD, s1, e1]
theorem g_x6 (s1 : slD x8 (some (.int 1)) none h = some p) : evE G0 K (.sl (.v 8) (some (.c (.int 1))) none) (env12 x0 x1 x2 x3 x4 x5 a b (.v x8) e f g) h = .ok p h := by
  simp [env12, evSs, evS, evE, evEs, evPs, evB, evF, evI, evOB, evO, evV, startEnv, endFl, isOwn, ownI, bindT, bindTs, wipe, parOk, bindP, itD, s1]
theorem g_c8 {c : Nat} (e1 : K 17 [x4, x10, .non] h = R.exc c y h) : evE G0 K (.call 17 (.cons (.v 4) (.cons (.v 10) (.cons (.c .non) .nil)))) (env12 x0 x1 x2 x3 x4 x5 a b d e (.v x10) g) h = .exc c y h := by
  simp [env12, evSs, evS, evE, evEs, evPs, evB, evF, evI, evOB, evO, evV, startEnv, endFl, isOwn, ownI, bindT, bindTs, wipe, parOk, bindP, itD, e1]
theorem g_c9 {c : Nat} (e1 : K 17 [x11, x10, .non] h = R.exc c y h) : evE G0 K (.call 17 (.cons (.v 11) (.cons (.v 10) (.cons (.c .non) .nil)))) (env12 x0 x1 x2 x3 x4 x5 a b d e (.v x10) (.v x11)) h = .exc c y h := by
  simp [env12, evSs, evS, evE, evEs, evPs, evB, evF, evI, evOB, evO, evV, startEnv, endFl, isOwn, ownI, bindT, bindTs, wipe, parOk, bindP, itD, e1]
end
variable {rep : D → List Nat} {n : Nat} {h : AH} {w r : Nat} {c : Int} {ss : List (Int × Int)}
theorem turn (ro : RepOk rep wordsK) {ns : List Int} {L : D} {t : Nat} {a b d e f g : MSlot} (hr : Row ns 0 h) (hw : h[1]? = some (webO c ss)) (h8 : ss.length ≤ 8) (hc : 0 ≤ c) (hc5 : c ≤ 5) (hv : ∀ p ∈ ss, okS c p) :
    ∃ st o wr h', okT ss st ∧ Ord c ss st o ∧ Row ns 0 h' ∧ Stay 0 h h' ∧ forStep (pr rep) (callD (pr rep) 50) (.v 6) P.l_law_0 (nI t) (envL L c ss a b d e f g) h = .ok (.nx (envL L c ss (.v (nI t)) (.v (.tup (st.map nI))) (.v (.tup (o.map .int))) (.v wr) f g)) h' := by
  obtain ⟨st, h1, s1, r1, t1, e1⟩ := turn_st (rep := rep) (L := L) (t := t) (b := b) (d := d) (e := e) (f := f) (g := g) (c := c) hr h8
  obtain ⟨o, h2, o1, r2, t2, e2⟩ := turn_o (rep := rep) (L := L) (t := t) (d := d) (e := e) (f := f) (g := g) r1 h8 hv s1
  have w2 : h2[1]? = some (webO c ss) := by rw [(t1.trans t2).2 1 (by decide)]; exact hw
  have e3 := turn_code (rep := rep) (L := L) (t := t) (e := e) (f := f) (g := g) w2 h8 hc hc5 hv s1 o1
  obtain ⟨wr, h3, d1, r3, t3, e4⟩ := turn_w (rep := rep) (c := c) (ss := ss) (L := L) (t := t) (x := .tup (st.map nI)) (e := e) (f := f) (g := g) r2 o1.len
  have w3 : h3[1]? = some (webO c ss) := by rw [t3.2 1 (by decide)]; exact w2
  have e5 := turn_no (rep := rep) ro (L := L) (t := t) (f := f) (g := g) w3 h8 hc hc5 hv s1 o1 d1
  refine ⟨st, o, wr, h3, s1, o1, r3, (t1.trans t2).trans t3, ?_⟩
  unfold forStep
  show evSs (pr rep) (callD (pr rep) 50) P.l_law_0 (envL L c ss (.v (nI t)) b d e f g) h = _
  unfold P.l_law_0
  rw [ss_nx e1, ss_nx e2, ss_nx e3, ss_nx e4, ss_nx e5]
  simp only [evSs]
end K16
end
section
set_option autoImplicit false
set_option linter.all false
set_option maxRecDepth 10000
open Mi
namespace K16
variable {rep : D → List Nat} {n : Nat} {h : AH} {w r : Nat} {c : Int} {ss : List (Int × Int)}
theorem Row.mono {ns : List Int} {h h' : AH} (hr : Row ns 0 h) (e : h'[0]? = h[0]?) : Row ns 0 h' := by
  obtain ⟨i, s, t, e1, e2⟩ := hr
  exact ⟨i, s, t, e.trans e1, e2⟩
theorem new_web (hl : h.length = 1) (h1 : 1 ≤ c) (h9 : c ≤ 9) (hn : ss.length ≤ 12) (hv : ∀ p ∈ ss, okS c p) :
    ∃ h', newD (pr rep) (callD (pr rep) 50) 0 [.int c, .lst (ss.map sd)] h = .ok (.ref 1) h' ∧ h'[0]? = h[0]? ∧ h'[1]? = some (webO c ss) := by
  have g0 : (h ++ [MObj.ins 0 []])[1]? = some (.ins 0 []) := by
    rw [← hl]
    simp
  have e := web_init (rep := rep) (n := 46) g0 h1 h9 hn hv
  refine ⟨_, ?_, ?_, rset (h := h ++ [.ins 0 []]) (r := 1) (by simp [hl]) (webO c ss)⟩
  · have e' : callD (pr rep) 50 6 [.ref h.length, .int c, .lst (ss.map sd)] (h ++ [.ins 0 []]) = .ok .non ((h ++ [MObj.ins 0 []]).set 1 (webO c ss)) := by
      rw [hl]
      exact e
    unfold newD
    rw [cl0]
    simp only
    rw [e']
    simp only
    rw [hl]
  · rw [List.getElem?_set_ne (by decide), List.getElem?_append_left (by omega)]
theorem the_law (ro : RepOk rep wordsK) (ns : List Int) : ∃ h, callD (pr rep) 51 31 [.lst (ns.map .int)] [] = .ok (.bl true) h := by
  -- the row
  have r0 : Row ns 0 [rowO ns 0 313 0] := ⟨0, 313, 0, rfl, by decide⟩
  obtain ⟨v, h1, v0, v5, r1, t1, e2⟩ := take1 (rep := rep) (n := 49) r0 (m := 5) (by decide) (by decide)
  obtain ⟨ss, h2, n0, n8, hv, r2, t2, e3⟩ := draw_strings (rep := rep) (n := 47) (c := 1 + v) r1 (by omega) (by omega)
  have l2 : h2.length = 1 := by rw [t2.1, t1.1]; rfl
  have hc : (0 : Int) ≤ 1 + v := by omega
  have hc5 : 1 + v ≤ 5 := by omega
  obtain ⟨h3, e4, a0, hw⟩ := new_web (rep := rep) (h := h2) l2 (by omega : 1 ≤ 1 + v) (by omega) (by omega) hv
  have r3 : Row ns 0 h3 := r2.mono a0
  have m1 : 1 ≤ ss.length := by
    cases ss with
    | nil => exact absurd rfl n0
    | cons _ _ => simp
  have f2 : evS (pr rep) (callD (pr rep) 50) _ (envM (.v (.lst (ns.map .int))) (.v (.ref 0)) .un .un .un .un .un .un .un .un .un .un) [rowO ns 0 313 0] = .ok (.nx (envM (.v (.lst (ns.map .int))) (.v (.ref 0)) (.v (.int (1 + v))) .un .un .un .un .un .un .un .un .un)) h1 := g2 (show callD (pr rep) 50 18 [.ref 0, .int 5] [rowO ns 0 313 0] = .ok (.int v) h1 from e2)
  have f3 : evS (pr rep) (callD (pr rep) 50) _ (envM (.v (.lst (ns.map .int))) (.v (.ref 0)) (.v (.int (1 + v))) .un .un .un .un .un .un .un .un .un) h1 = .ok (.nx (envM (.v (.lst (ns.map .int))) (.v (.ref 0)) (.v (.int (1 + v))) (.v (.lst (ss.map sd))) .un .un .un .un .un .un .un .un)) h2 := g3 (show callD (pr rep) 50 22 [.ref 0, .int (1 + v), .int 8] h1 = .ok (.lst (ss.map sd)) h2 from e3)
  clear e2 e3
  generalize 1 + v = c at *
  -- the loop
  obtain ⟨en, h4, e5, r4, t4, hI⟩ := forL_map (g := same none h3) (step := forStep (pr rep) (callD (pr rep) 50) (.v 6) P.l_law_0) nI
    (fun rest en h' => Row ns 0 h' ∧ Stay 0 h3 h' ∧ ((rest ≠ [] ∧ en = envL (.lst (ns.map .int)) c ss .un .un .un .un .un .un) ∨ ∃ t st o wr, okT ss st ∧ Ord c ss st o ∧ en = envL (.lst (ns.map .int)) c ss (.v (nI t)) (.v (.tup (st.map nI))) (.v (.tup (o.map .int))) (.v wr) .un .un))
    (fun t rest en h' hI => by
      obtain ⟨r', t', hI⟩ := hI
      have w' : h'[1]? = some (webO c ss) := by rw [t'.2 1 (by decide)]; exact hw
      have : ∃ a b d e, en = envL (.lst (ns.map .int)) c ss a b d e .un .un := by
        rcases hI with ⟨_, z⟩ | ⟨_, _, _, _, _, _, z⟩
        · exact ⟨_, _, _, _, z⟩
        · exact ⟨_, _, _, _, z⟩
      obtain ⟨a, b, d, e, rfl⟩ := this
      obtain ⟨st, o, wr, h'', s1, o1, r'', t'', e''⟩ := turn (rep := rep) ro (L := .lst (ns.map .int)) (t := t) (a := a) (b := b) (d := d) (e := e) (f := .un) (g := .un) r' w' n8 hc hc5 hv
      exact ⟨_, h'', e'', rfl, r'', t'.trans t'', .inr ⟨t, st, o, wr, s1, o1, rfl⟩⟩)
    (l := List.range 4) (en := envL (.lst (ns.map .int)) c ss .un .un .un .un .un .un) (h := h3) ⟨r3, .refl _ _, .inl ⟨by decide, rfl⟩⟩
  rcases hI with ⟨z, _⟩ | ⟨t, st, o, wr, s1, o1, rfl⟩
  · exact absurd rfl z
  have w4 : h4[1]? = some (webO c ss) := by rw [t4.2 1 (by decide)]; exact hw
  -- the end
  obtain ⟨bs, h5, b1, r5, t5, e7⟩ := bad_standing (rep := rep) (n := 47) r4 (ss.length : Int)
  obtain ⟨bw, h6, b2, r6, t6, e8⟩ := bad_web (rep := rep) (n := 47) r5
  have w6 : h6[1]? = some (webO c ss) := by rw [(t5.trans t6).2 1 (by decide)]; exact w4
  refine ⟨h6, ?_⟩
  refine call_rt (fn := P.d_law) rfl rfl ?_
  show evSs (pr rep) (callD (pr rep) 50) P.b_law (envM (.v (.lst (ns.map .int))) .un .un .un .un .un .un .un .un .un .un .un) [] = _
  unfold P.b_law
  have hs6 : ∀ h, slD (.tup (o.map D.int)) (some (.int 1)) none h = some (.tup (o.tail.map .int)) := fun h => by
    have := slD_tup (o.map D.int) (some 1) none h
    rw [cut1] at this
    rw [List.map_tail]
    exact this
  have f6 : evS (pr rep) (callD (pr rep) 50) (.iff (.and (.e (.cmp .ne (.v 8) (.tup .nil))) (.e (.cmp .ne (.bi .repr (.cons (.rf 0 (.call 17 (.cons (.v 4) (.cons (.v 7) (.cons (.sl (.v 8) (some (.c (.int 1))) none) .nil))))) .nil)) (.bi .repr (.cons (.tup (.cons (.c (.str [111, 114, 100, 101, 114])) (.cons (.sl (.v 8) (some (.c (.int 1))) none) .nil))) .nil))))) (.cons (.ret (.c (.bl false))) .nil) .nil)
      (envL (.lst (ns.map .int)) c ss (.v (nI t)) (.v (.tup (st.map nI))) (.v (.tup (o.map .int))) (.v wr) .un .un) h4 = .ok (.nx (envL (.lst (ns.map .int)) c ss (.v (nI t)) (.v (.tup (st.map nI))) (.v (.tup (o.map .int))) (.v wr) .un .un)) h4 := by
    have cm : cmpD .ne (.tup (o.map .int)) (.tup []) h4 = some (.bl (!decide (o = []))) := by
      have := eqvs_int o []
      have c0 := cmpable_tupI []
      simp only [List.map_nil] at this c0
      simp only [cmpD, cmpable_tupI, c0, and_self, if_true, D.eqv, this]
    by_cases q : o = []
    · rw [decide_eq_true q] at cm
      exact g6a cm
    · rw [decide_eq_false q] at cm
      have hno : noOrd c (allE ss st) (.tup (o.tail.map .int)) := no_of o1 hc hv s1 (fun z => by
        have := z.length_eq
        rw [List.length_tail] at this
        exact q (List.length_eq_zero_iff.mp (by omega)))
      have hsm : smB (.tup [.str wOr, .tup (o.tail.map .int)]) = true := (sm_seq (els fun k hk => by have := o1.bd k (List.mem_of_mem_tail hk); omega) (by have := o1.len; simp; omega)).1 _ (by decide)
      have ec : callD (pr rep) 50 17 [.ref 1, .tup (st.map nI), .tup (o.tail.map .int)] h4 = .exc 6 (.tup (o.tail.map .int)) h4 := code_of_no (n := 43) w4 hc (by omega) hv s1 rfl hno
      have e3 := refuse ro (g_c6 (a := .v (nI t)) (x0 := .lst (ns.map .int)) (x1 := .ref 0) (x2 := .int c) (x3 := .lst (ss.map sd)) (x5 := .int (ss.length : Int)) (e := .v wr) (f := .un) (g := .un) (hs6 h4) ec) (g_x6 (hs6 h4)) (word := wOr) rfl hsm rfl false
      simp only [Bool.false_eq_true, if_false] at e3
      unfold wOr at e3
      exact g6b cm e3
  have f8 : evS (pr rep) (callD (pr rep) 50) (.iff (.e (.cmp .ne (.bi .repr (.cons (.rf 0 (.call 17 (.cons (.v 4) (.cons (.v 10) (.cons (.c .non) .nil))))) .nil)) (.bi .repr (.cons (.tup (.cons (.c (.str [115, 116, 97, 110, 100, 105, 110, 103])) (.cons (.v 10) .nil))) .nil)))) (.cons (.ret (.c (.bl false))) .nil) .nil)
      (envL (.lst (ns.map .int)) c ss (.v (nI t)) (.v (.tup (st.map nI))) (.v (.tup (o.map .int))) (.v wr) (.v bs) (.v bw)) h6 = .ok (.nx (envL (.lst (ns.map .int)) c ss (.v (nI t)) (.v (.tup (st.map nI))) (.v (.tup (o.map .int))) (.v wr) (.v bs) (.v bw))) h6 := by
    have ec : callD (pr rep) 50 17 [.ref 1, bs, .non] h6 = .exc 5 bs h6 := code_of_st (n := 43) w6 (badS_no (by omega) bs b1)
    have e3 := refuse ro (g_c8 (a := .v (nI t)) (b := .v (.tup (st.map nI))) (d := .v (.tup (o.map .int))) (x0 := .lst (ns.map .int)) (x1 := .ref 0) (x2 := .int c) (x3 := .lst (ss.map sd)) (x5 := .int (ss.length : Int)) (e := .v wr) (g := .v bw) ec) (X := .v 10) (d := bs) rfl (word := wSt) rfl (badS_sm (by omega) bs b1) rfl false
    simp only [Bool.false_eq_true, if_false] at e3
    unfold wSt at e3
    exact g8 e3
  have f9 : evE (pr rep) (callD (pr rep) 50) (.cmp .eq (.bi .repr (.cons (.rf 0 (.call 17 (.cons (.v 11) (.cons (.v 10) (.cons (.c .non) .nil))))) .nil)) (.bi .repr (.cons (.tup (.cons (.c (.str [119, 101, 98])) (.cons (.v 11) .nil))) .nil)))
      (envL (.lst (ns.map .int)) c ss (.v (nI t)) (.v (.tup (st.map nI))) (.v (.tup (o.map .int))) (.v wr) (.v bs) (.v bw)) h6 = .ok (.bl true) h6 := by
    obtain ⟨q1, q2⟩ := badW_ok bw b2
    have ec : callD (pr rep) 50 17 [bw, bs, .non] h6 = .exc 4 bw h6 := code_of_web (n := 43) q1
    have e3 := refuse ro (g_c9 (a := .v (nI t)) (b := .v (.tup (st.map nI))) (d := .v (.tup (o.map .int))) (x0 := .lst (ns.map .int)) (x1 := .ref 0) (x2 := .int c) (x3 := .lst (ss.map sd)) (x4 := .ref 1) (x5 := .int (ss.length : Int)) (e := .v wr) ec) (X := .v 11) (d := bw) rfl (word := wWeb) rfl q2 rfl true
    simp only [if_true] at e3
    unfold wWeb at e3
    exact e3
  have fl : evS (pr rep) (callD (pr rep) 50) (.for (.v 6) (.r1 (.c (.int 4))) P.l_law_0) (envL (.lst (ns.map .int)) c ss .un .un .un .un .un .un) h3 = .ok (.nx (envL (.lst (ns.map .int)) c ss (.v (nI t)) (.v (.tup (st.map nI))) (.v (.tup (o.map .int))) (.v wr) .un .un)) h4 := by
    rw [for_eq (xs := ((List.range 4).map nI, none)) (h' := h3) rfl (rng (k := 4) (by decide) rfl)]
    exact e5
  have e7' : callD (pr rep) 50 25 [.ref 0, .int (ss.length : Int)] h4 = .ok bs h5 := e7
  have e8' : callD (pr rep) 50 24 [.ref 0] h5 = .ok bw h6 := e8
  have f1 : evS (pr rep) (callD (pr rep) 50) _ (envM (.v (.lst (ns.map .int))) .un .un .un .un .un .un .un .un .un .un .un) [] = .ok (.nx (envM (.v (.lst (ns.map .int))) (.v (.ref 0)) .un .un .un .un .un .un .un .un .un .un)) [rowO ns 0 313 0] := g1
  have f4 : evS (pr rep) (callD (pr rep) 50) _ (envM (.v (.lst (ns.map .int))) (.v (.ref 0)) (.v (.int c)) (.v (.lst (ss.map sd))) .un .un .un .un .un .un .un .un) h2 = .ok (.nx (envL (.lst (ns.map .int)) c ss .un .un .un .un .un .un)) h3 := g4 e4 (z := .int (ss.length : Int)) (by rw [bi_len_lst, List.length_map])
  have f7 : evS (pr rep) (callD (pr rep) 50) _ (envL (.lst (ns.map .int)) c ss (.v (nI t)) (.v (.tup (st.map nI))) (.v (.tup (o.map .int))) (.v wr) .un .un) h4 = .ok (.nx (envL (.lst (ns.map .int)) c ss (.v (nI t)) (.v (.tup (st.map nI))) (.v (.tup (o.map .int))) (.v wr) (.v bs) (.v bw))) h6 := g7 e7' e8'
  rw [ss_nx f1, ss_nx f2, ss_nx f3, ss_nx f4]
  rw [ss_nx fl, ss_nx f6, ss_nx f7, ss_nx f8, ss_rt]
  rw [evS, f9]
  simp only [bind_ok]
end K16
end
section
set_option Elab.async false
set_option linter.all false
set_option maxRecDepth 1000000
set_option maxHeartbeats 0
open PySem Mi
namespace Q
def ofS (l : List String) : List Str := l.map Str.ofString
def frees : List String := ["len", "tuple", "sum", "max", "min", "any", "all", "int", "str", "repr", "abs", "ord", "range", "enumerate", "zip", "isinstance", "sorted", "set", "list", "bool", "dict", "reversed"]
def pg : Pg where
  g := P.prog repD
  body := PySem.Challenge.pw_boxesclosed_k16_codes.main.body
  slots := P.slots.map ofS
  globF := P.globF.map fun q => (Str.ofString q.1, q.2)
  globC := P.globC.map fun q => (Str.ofString q.1, q.2)
  globD := P.globD.map fun q => (Str.ofString q.1, q.2)
  free := ofS frees
  attrs := ofS P.attrs
  errs := P.errs
  rp := P.rps
  cn := ofS P.clsNames
  subs := P.subs
  lams := P.lams
theorem stat : statB pg 100 = true := by decide +kernel
end Q

open PySem PySem.W PySem.Calls PyProof.Rows
namespace Q
abbrev R : OpenRow := OpenLaw.row PySem.Challenge.rw_boxesclosed_k16_codes
def ob (s : SharedT) : He.AlX := He.obsX 6 [] pg.fnD [] pg.tf (dynB pg) (HandSHeadRun.getT s)
def lawAt : Nat := R.prog.main.body.length - 1
def loose : List Str := (R.prog.main.scope.names.map (·.1)).filter fun x => !(x == ("__name__" : Str)) && !(x == ("law" : Str))
theorem run (w : World) : HandSHeadRun.RunEq R (view R.prog [lawAt]) (He.hookX 6 [] pg.fnD [] pg.tf (dynB pg)) ob 4000 loose w := by
  intro os
  kernel_rfl
end Q

namespace Q
theorem pure : Mi.Pure pg 50 31 63 := fun ns _ _ => K16.the_law (repOk (by decide +kernel)) ns
end Q
theorem PySem.Challenge.cw_boxesclosed_k16_codes_holds : PySem.Challenge.rw_boxesclosed_k16_codes.Holds := by
  w_on; o_law
  refine HandSHeadRun.head_any (r := Q.R) (q := view Q.R.prog [Q.lawAt]) (H := He.hookX 6 [] Q.pg.fnD [] Q.pg.tf (dynB Q.pg)) (ob := Q.ob) (M := 4000) (loose := Q.loose) (d := HandSHeadRun.topDef Q.R.prog Q.lawAt) (kwd := []) (fun s => He.obsX_eq (HandSHeadRun.getT_eq s))
    (by kernel_rfl) (fun s => by kernel_rfl) Q.run (by kernel_rfl) (by kernel_rfl) (by kernel_rfl) (by rfl) (by first | assumption | decide +kernel) (by decide +kernel) ⟨rfl, rfl, rfl, rfl, rfl, by decide +kernel⟩ ?hw ?hc
  case hw => w_witness2
  case hc =>
    exact Mi.law_walk (l := PySem.Challenge.rw_boxesclosed_k16_codes) (p := Q.pg) (fuel := 100) (n := 50) (fi := 31) (m := 63) (fn := P.d_law) (x := "script") (dq := (Q.pg.defs).getD 31 noDef) rfl (by decide) (by kernel_rfl) ⟨rfl, by decide, by decide⟩
      Q.stat rfl rfl rfl (by kernel_rfl) (by kernel_rfl) (by decide +kernel) rfl Q.pure
end
