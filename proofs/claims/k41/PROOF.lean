import PyProof.Rows.All
import PySem.PyData
import Wide.All
import OpenK.AllK
import Wide.FinOn
import HandS.ForMost
import HandS.ForExc
import HandS.Flow
import HandS.Style
import HandS.IsInst
import HandS.TupAny
import HandS.Conv
import HandS.EndBits
import HandS.Wide
import HandS.Deep
import HandS.Rev
import HandS.Dict
import HandS.Zip
import KE.KDictZip
import KE.KItemsList
import HandS.Zip0
import KE.GoesMore
import HandS.Codes
import HandS.Head0
import HandS.Head1
import HandS.Head2
import HandS.HeadEnd
import HandS.HeadHook1
import HandS.HeadHook2
import PyProof.Rows.Walk
import HandS.Sort
import PySem.Challenge.RW_shapewright_k41_form_of_decision_graphs
/-! ## Pi0 -/
set_option linter.all false
set_option autoImplicit false
/-! PI, part 0: plain denotations of Python's constructs. No model in sight. -/
namespace PI
/-- data: what never changes; ref n: the n-th object of the plain heap; cv n: a constant of the program (a def, a class) -/
inductive D where
  | non | bl (b : Bool) | int (i : Int) | str (s : List Nat) | tup (xs : List D) | ref (n : Nat) | cv (n : Nat)
  /-- a list that no one writes -/
  | rl (xs : List D)
  deriving Inhabited
mutual
def D.same : D → D → Bool
  | .non, .non => true
  | .bl a, .bl b => a == b
  | .int a, .int b => a == b
  | .str a, .str b => a == b
  | .tup a, .tup b => D.sameL a b
  | .ref a, .ref b => a == b
  | .cv a, .cv b => a == b
  | .rl a, .rl b => D.sameL a b
  | _, _ => false
def D.sameL : List D → List D → Bool
  | [], [] => true
  | x :: xs, y :: ys => D.same x y && D.sameL xs ys
  | _, _ => false
end
mutual
theorem D.same_refl : ∀ d : D, D.same d d = true
  | .non => by simp [D.same]
  | .bl _ => by simp [D.same]
  | .int _ => by simp [D.same]
  | .str _ => by simp [D.same]
  | .tup xs => by simp [D.same, D.sameL_refl xs]
  | .ref _ => by simp [D.same]
  | .cv _ => by simp [D.same]
  | .rl xs => by simp [D.same, D.sameL_refl xs]
theorem D.sameL_refl : ∀ ds : List D, D.sameL ds ds = true
  | [] => by simp [D.sameL]
  | x :: xs => by simp [D.sameL, D.same_refl x, D.sameL_refl xs]
end
mutual
theorem D.same_eq : ∀ (d e : D), D.same d e = true → d = e
  | .non, e, h => by cases e <;> simp_all [D.same]
  | .bl _, e, h => by cases e <;> simp_all [D.same]
  | .int _, e, h => by cases e <;> simp_all [D.same]
  | .str _, e, h => by cases e <;> simp_all [D.same]
  | .tup xs, e, h => by
    cases e with
    | tup ys => rw [D.same] at h; rw [D.sameL_eq xs ys h]
    | _ => simp [D.same] at h
  | .ref _, e, h => by cases e <;> simp_all [D.same]
  | .cv _, e, h => by cases e <;> simp_all [D.same]
  | .rl xs, e, h => by
    cases e with
    | rl ys => rw [D.same] at h; rw [D.sameL_eq xs ys h]
    | _ => simp [D.same] at h
theorem D.sameL_eq : ∀ (ds es : List D), D.sameL ds es = true → ds = es
  | [], es, h => by cases es <;> simp_all [D.sameL]
  | x :: xs, es, h => by
    cases es with
    | nil => simp [D.sameL] at h
    | cons y ys =>
      rw [D.sameL, Bool.and_eq_true] at h
      rw [D.same_eq x y h.1, D.sameL_eq xs ys h.2]
end
/-- a key of a dict -/
inductive Ky where
  | i (n : Int) | s (x : List Nat)
  deriving DecidableEq
inductive Ob where
  | lst (xs : List D)
  | dk (kvs : List (Ky × D))
  | dt (kvs : List (List Ky × D))
  | ins (c : Nat) (fs : List (List Nat × D))
abbrev Hh := List Ob
abbrev En := List (Option D)
inductive Res (α : Type) where
  | bad
  | ok (a : α) (h : Hh)
  | exc (c : Nat) (fs : List (List Nat × D)) (h : Hh)
variable {α β : Type}
def Res.bind (r : Res α) (k : α → Hh → Res β) : Res β := match r with
  | .bad => .bad
  | .ok a h => k a h
  | .exc c fs h => .exc c fs h
@[simp] theorem bind_bad {k : α → Hh → Res β} : Res.bind .bad k = .bad := rfl
@[simp] theorem bind_ok {a : α} {h : Hh} {k : α → Hh → Res β} : Res.bind (.ok a h) k = k a h := rfl
@[simp] theorem bind_exc {c : Nat} {fs : List (List Nat × D)} {h : Hh} {k : α → Hh → Res β} : Res.bind (.exc c fs h) k = .exc c fs h := rfl
/-- .. where no exception may come -/
def Res.bn (r : Res α) (k : α → Hh → Res β) : Res β := match r with
  | .ok a h => k a h
  | _ => .bad
@[simp] theorem bn_bad {k : α → Hh → Res β} : Res.bn .bad k = .bad := rfl
@[simp] theorem bn_ok {a : α} {h : Hh} {k : α → Hh → Res β} : Res.bn (.ok a h) k = k a h := rfl
@[simp] theorem bn_exc {c : Nat} {fs : List (List Nat × D)} {h : Hh} {k : α → Hh → Res β} : Res.bn (.exc c fs h) k = .bad := rfl
abbrev Den := En → Hh → Res D
abbrev TDen := En → Hh → Res Bool
abbrev ADen := En → Hh → Res (List D)
/-- where a statement ends -/
inductive Fl where
  | nx (e : En) | rt (d : D) | bk (e : En) | ct (e : En)
  /-- an exception of the class c, its fields, the names' values where it was raised -/
  | xc (c : Nat) (fs : List (List Nat × D)) (e : En)
abbrev SDen := En → Hh → Res Fl

/-! ### lines of the model -/
def SL : Nat := 16777216
def MUL : Nat := 100000000
/-- the list that stands at n -/
def lstAt (h : Hh) (n : Nat) : Option (List D) := match h[n]? with
  | some (.lst xs) => some xs
  | _ => none
/-- a list's items -/
def listOf (h : Hh) : D → Option (List D)
  | .ref n => lstAt h n
  | .rl xs => some xs
  | _ => none

/-! ### expressions -/
def dVar (i : Nat) : Den := fun e h => match e[i]? with
  | some (some d) => .ok d h
  | _ => .bad
def dC (d : D) : Den := fun _ h => .ok d h
def dBin (f : D → D → Hh → Res D) (a b : Den) : Den := fun e h => (a e h).bind fun x h1 => (b e h1).bind fun y h2 => f x y h2
def dUn (f : D → Hh → Res D) (a : Den) : Den := fun e h => (a e h).bind fun x h1 => f x h1
def aNil : ADen := fun _ h => .ok [] h
def aCons (a : Den) (r : ADen) : ADen := fun e h => (a e h).bind fun x h1 => (r e h1).bind fun xs h2 => .ok (x :: xs) h2
def dTup (a : ADen) : Den := fun e h => (a e h).bind fun xs h1 => if xs.length ≤ SL then .ok (.tup xs) h1 else .bad
def dLst (a : ADen) : Den := fun e h => (a e h).bind fun xs h1 => if xs.length ≤ SL then .ok (.ref h1.length) (h1 ++ [.lst xs]) else .bad
def dArgs (f : List D → Hh → Res D) (a : ADen) : Den := fun e h => (a e h).bind f

def mulOk (i j : Int) : Prop := i.natAbs.log2 + j.natAbs.log2 < MUL
instance (i j : Int) : Decidable (mulOk i j) := inferInstanceAs (Decidable (_ < _))
def divOk (j : Int) : Prop := j ≠ 0 ∧ j.natAbs.log2 < 8000
instance (j : Int) : Decidable (divOk j) := inferInstanceAs (Decidable (_ ∧ _))
def oAdd : D → D → Hh → Res D
  | .int i, .int j, h => .ok (.int (i + j)) h
  | .str a, .str b, h => if a.length + b.length ≤ SL then .ok (.str (a ++ b)) h else .bad
  | .tup a, .tup b, h => if a.length + b.length ≤ SL then .ok (.tup (a ++ b)) h else .bad
  | .ref a, .ref b, h => match h[a]?, h[b]? with
    | some (.lst xs), some (.lst ys) => if xs.length + ys.length ≤ SL then .ok (.ref h.length) (h ++ [.lst (xs ++ ys)]) else .bad
    | _, _ => .bad
  | _, _, _ => .bad
def oSub : D → D → Hh → Res D
  | .int i, .int j, h => .ok (.int (i - j)) h
  | _, _, _ => .bad
def oMul : D → D → Hh → Res D
  | .int i, .int j, h => if mulOk i j then .ok (.int (i * j)) h else .bad
  | .ref n, .int k, h => match h[n]? with
    | some (.lst xs) => if -(2 ^ 63) ≤ k ∧ k < 2 ^ 63 ∧ xs.length * k.toNat ≤ SL then .ok (.ref h.length) (h ++ [.lst (List.replicate k.toNat xs).flatten]) else .bad
    | _ => .bad
  | _, _, _ => .bad
def oDiv : D → D → Hh → Res D
  | .int i, .int j, h => if divOk j then .ok (.int (i.fdiv j)) h else .bad
  | _, _, _ => .bad
def oMod : D → D → Hh → Res D
  | .int i, .int j, h => if j ≠ 0 then .ok (.int (i.fmod j)) h else .bad
  | _, _, _ => .bad
def oPow : D → D → Hh → Res D
  | .int i, .int j, h => if 0 ≤ j ∧ j ≤ 1000000 ∧ i.natAbs < 2 ^ 64 then .ok (.int (i ^ j.toNat)) h else .bad
  | _, _, _ => .bad
def oNeg : D → Hh → Res D
  | .int i, h => .ok (.int (-i)) h
  | _, _ => .bad

/-- += of ints and texts; of two lists: in place -/
def oIadd : D → D → Hh → Res D
  | .int i, .int j, h => .ok (.int (i + j)) h
  | .str a, .str b, h => if a.length + b.length ≤ SL then .ok (.str (a ++ b)) h else .bad
  | .ref a, .ref b, h => match h[a]?, h[b]? with
    | some (.lst xs), some (.lst ys) => if xs.length + ys.length ≤ SL then .ok (.ref a) (h.set a (.lst (xs ++ ys))) else .bad
    | _, _ => .bad
  | _, _, _ => .bad
def oIaddI : D → D → Hh → Res D
  | .int i, .int j, h => .ok (.int (i + j)) h
  | _, _, _ => .bad
/-! ### comparisons -/
mutual
/-- no reference within -/
def D.flat : D → Bool
  | .non => true | .bl _ => true | .int _ => true
  | .str s => s.all (· < 0x110000)
  | .tup xs => D.flatL xs
  | .ref _ => false | .cv _ => false | .rl _ => false
def D.flatL : List D → Bool
  | [] => true
  | x :: xs => D.flat x && D.flatL xs
end
mutual
def D.deep : D → Nat
  | .tup xs => D.deepL xs + 1
  | _ => 0
def D.deepL : List D → Nat
  | [] => 0
  | x :: xs => max (D.deep x) (D.deepL xs)
end
mutual
/-- Python's == of flat data -/
def D.eqv : D → D → Bool
  | .non, .non => true
  | .bl a, .bl b => a == b
  | .bl a, .int j => (if a then 1 else 0) == j
  | .int i, .bl b => i == (if b then 1 else 0)
  | .int i, .int j => i == j
  | .str a, .str b => a == b
  | .tup a, .tup b => D.eqvL a b
  | _, _ => false
def D.eqvL : List D → List D → Bool
  | [], [] => true
  | x :: xs, y :: ys => D.eqv x y && D.eqvL xs ys
  | _, _ => false
end
/-- None, a bool, an int, a text -/
def D.scal : D → Bool
  | .non => true | .bl _ => true | .int _ => true | .str _ => true | _ => false
/-- an int against a bool: left to the deep rule -/
def D.scal2 : D → D → Bool
  | .int _, .bl _ => false | .bl _, .int _ => false
  | a, b => a.scal && b.scal
def D.fit (d : D) : Bool := d.flat && decide (d.deep ≤ 60)
def D.fitL (ds : List D) : Bool := D.flatL ds && decide (D.deepL ds ≤ 60)
/-- == of parts: data, or lists of data -/
def eqE (h : Hh) (x y : D) : Option Bool := match listOf h x, listOf h y with
  | some a, some b => if D.fitL a && D.fitL b then some (D.eqvL a b) else none
  | none, none => if x.fit && y.fit then some (D.eqv x y) else none
  | _, _ => none
def eqEL (h : Hh) : List D → List D → Option Bool
  | [], [] => some true
  | x :: xs, y :: ys => match eqE h x y, eqEL h xs ys with
    | some a, some b => some (a && b)
    | _, _ => none
  | _, _ => none
/-- == -/
def eqR (h : Hh) (x y : D) : Option Bool :=
  if D.scal2 x y then some (D.eqv x y)
  else match listOf h x, listOf h y with
  | some a, some b => if D.fitL a && D.fitL b then some (D.eqvL a b) else none
  | some a, none => if D.fitL a && y.fit then some false else none
  | none, some b => if x.fit && D.fitL b then some false else none
  | none, none => if x.fit && y.fit then some (D.eqv x y) else match x, y with
    | .tup xs, .tup ys => eqEL h xs ys
    | _, _ => none
def cEq : D → D → Hh → Res D := fun x y h => match eqR h x y with
  | some b => .ok (.bl b) h
  | none => .bad
def cNe : D → D → Hh → Res D := fun x y h => match eqR h x y with
  | some b => .ok (.bl (!b)) h
  | none => .bad
def ltL : List Nat → List Nat → Bool := fun a b => decide (a < b)
def cLt : D → D → Hh → Res D
  | .int i, .int j, h => .ok (.bl (decide (i < j))) h
  | .str a, .str b, h => .ok (.bl (ltL a b)) h
  | _, _, _ => .bad
def cLe : D → D → Hh → Res D
  | .int i, .int j, h => .ok (.bl (decide (i ≤ j))) h
  | .str a, .str b, h => .ok (.bl (!ltL b a)) h
  | _, _, _ => .bad
def cGt : D → D → Hh → Res D
  | .int i, .int j, h => .ok (.bl (decide (j < i))) h
  | .str a, .str b, h => .ok (.bl (ltL b a)) h
  | _, _, _ => .bad
def cGe : D → D → Hh → Res D
  | .int i, .int j, h => .ok (.bl (decide (j ≤ i))) h
  | .str a, .str b, h => .ok (.bl (!ltL a b)) h
  | _, _, _ => .bad
/-- is None, is not None; is True, is False and their nots are told of bools alone -/
def isN : D → Option Bool
  | .non => some true
  | .cv _ => none
  | _ => some false
def cIsN : D → Hh → Res D := fun x h => match isN x with
  | some b => .ok (.bl b) h
  | none => .bad
def cNotN : D → Hh → Res D := fun x h => match isN x with
  | some b => .ok (.bl (!b)) h
  | none => .bad
/-- x is c, c a bool -/
def isBl (c : Bool) : D → Option Bool
  | .bl a => some (decide (a = c))
  | .cv _ => none
  | _ => some false
/-- is, is not with True, False -/
def cIsB : D → D → Hh → Res D
  | x, .bl c, h => match isBl c x with
    | some b => .ok (.bl b) h
    | none => .bad
  | _, _, _ => .bad
def cNotB : D → D → Hh → Res D
  | x, .bl c, h => match isBl c x with
    | some b => .ok (.bl (!b)) h
    | none => .bad
  | _, _, _ => .bad
/-- x in items, both flat -/
def anyEq (x : D) : List D → Bool
  | [] => false
  | y :: ys => D.eqv y x || anyEq x ys
def inItems (x : D) (xs : List D) : Option Bool := if x.scal && xs.all D.scal then some (anyEq x xs) else none
/-- the same of data of any depth -/
def inDeep (x : D) (xs : List D) : Option Bool := if x.fit && D.fitL xs then some (anyEq x xs) else none
/-- a key's form -/
def keyOf : D → Option Ky
  | .int i => some (.i i)
  | .str s => some (.s s)
  | _ => none
def keysOf : List D → Option (List Ky)
  | [] => some []
  | d :: ds => match keyOf d, keysOf ds with
    | some k, some ks => some (k :: ks)
    | _, _ => none
def inR (h : Hh) (x y : D) : Option Bool := match y with
  | .tup ys => inItems x ys
  | .str s => match x with
    | .str [c] => some (decide (c ∈ s))
    | _ => none
  | y => match listOf h y with
    | some ys => (match inItems x ys with
      | some b => some b
      | none => inDeep x ys)
    | none => none
def cIn : D → D → Hh → Res D := fun x y h => match inR h x y with
  | some b => .ok (.bl b) h
  | none => .bad
def cNin : D → D → Hh → Res D := fun x y h => match inR h x y with
  | some b => .ok (.bl (!b)) h
  | none => .bad
/-- a op b op' c -/
def dChain (f g : D → D → Hh → Res D) (a b c : Den) : Den := fun e h => (a e h).bind fun x h1 => (b e h1).bind fun y h2 => (f x y h2).bind fun z h3 => match z with
  | .bl true => (c e h3).bind fun w h4 => g y w h4
  | .bl false => .ok (.bl false) h3
  | _ => .bad

/-! ### dicts keyed by ints and texts -/
def valK (kvs : List (Ky × D)) (k : Ky) : Option D := match kvs with
  | [] => none
  | (q, d) :: r => if q = k then some d else valK r k
def setK (kvs : List (Ky × D)) (k : Ky) (d : D) : List (Ky × D) :=
  if (kvs.any fun kv => decide (kv.1 = k)) = true then kvs.map (fun kv => if kv.1 = k then (kv.1, d) else kv) else kvs ++ [(k, d)]
def dkAt (h : Hh) (n : Nat) : Option (List (Ky × D)) := match h[n]? with
  | some (.dk kvs) => some kvs
  | _ => none
/-- what d[y] is: y's key, then what stands there -/
def dkGet (h : Hh) (x y : D) : Option (Option D) := match x, keyOf y with
  | .ref n, some k => (match dkAt h n with
    | some kvs => some (valK kvs k)
    | none => none)
  | _, _ => none
def dDGet (a b : Den) : Den := fun e h => (a e h).bind fun x h1 => (b e h1).bind fun y h2 => match dkGet h2 x y with
  | some (some d) => .ok d h2
  | _ => .bad
def dDIn (a b : Den) : Den := fun e h => (a e h).bind fun y h1 => (b e h1).bind fun x h2 => match dkGet h2 x y with
  | some o => .ok (.bl o.isSome) h2
  | none => .bad
def dDNin (a b : Den) : Den := fun e h => (a e h).bind fun y h1 => (b e h1).bind fun x h2 => match dkGet h2 x y with
  | some o => .ok (.bl (!o.isSome)) h2
  | none => .bad
def isDk (h : Hh) : D → Bool
  | .ref n => (dkAt h n).isSome
  | _ => false
/-- d.get(y), d.get(y, z) -/
def dGet1 (a b : Den) : Den := fun e h => (a e h).bind fun x h1 => if isDk h1 x = true then (b e h1).bind fun y h2 => match dkGet h2 x y with
  | some o => .ok (o.getD .non) h2
  | none => .bad else .bad
def dGet2 (a b c : Den) : Den := fun e h => (a e h).bind fun x h1 => if isDk h1 x = true then (b e h1).bind fun y h2 => (c e h2).bind fun z h3 => match dkGet h3 x y with
  | some o => .ok (o.getD z) h3
  | none => .bad else .bad
def dNewK : Den := fun _ h => .ok (.ref h.length) (h ++ [.dk []])
/-- d[y] = v behind the three -/
def dkPut (x y v : D) (h : Hh) : Res Unit := match x, keyOf y with
  | .ref n, some k => (match dkAt h n with
    | some kvs => if kvs.length < SL then .ok () (h.set n (.dk (setK kvs k v))) else .bad
    | none => .bad)
  | _, _ => .bad
/-! ### truth, tests -/
def truth (h : Hh) : D → Option Bool
  | .non => some false
  | .bl b => some b
  | .int i => some (i != 0)
  | .str s => if s.length ≤ SL then some (!s.isEmpty) else none
  | .tup xs => some (!xs.isEmpty)
  | .ref n => match h[n]? with
    | some (.lst xs) => some (!xs.isEmpty)
    | some (.dk kvs) => some (!kvs.isEmpty)
    | _ => none
  | .rl xs => some (!xs.isEmpty)
  | .cv _ => none
/-- an expression that gives a bool, as a test -/
def tV (a : Den) : TDen := fun e h => (a e h).bind fun x h1 => match x with
  | .bl b => .ok b h1
  | _ => .bad
def tT (a : Den) : TDen := fun e h => (a e h).bind fun x h1 => match truth h1 x with
  | some b => .ok b h1
  | none => .bad
def tAnd (a b : TDen) : TDen := fun e h => (a e h).bind fun x h1 => if x = true then b e h1 else .ok false h1
def tOr (a b : TDen) : TDen := fun e h => (a e h).bind fun x h1 => if x = true then .ok true h1 else b e h1
def tNot (a : TDen) : TDen := fun e h => (a e h).bind fun x h1 => .ok (!x) h1
def dAnd (a b : Den) : Den := fun e h => (a e h).bind fun x h1 => match truth h1 x with
  | some true => b e h1
  | some false => .ok x h1
  | none => .bad
def dOr (a b : Den) : Den := fun e h => (a e h).bind fun x h1 => match truth h1 x with
  | some true => .ok x h1
  | some false => b e h1
  | none => .bad
def dNot (a : Den) : Den := fun e h => (a e h).bind fun x h1 => match truth h1 x with
  | some b => .ok (.bl (!b)) h1
  | none => .bad
def dIf (t : TDen) (a b : Den) : Den := fun e h => (t e h).bind fun x h1 => if x = true then a e h1 else b e h1

/-! ### places and cuts -/
/-- the place of the index i among n items -/
def ixOf (n : Nat) (i : Int) : Option Nat := if 0 ≤ i then (if i < n then some i.toNat else none) else if -(n : Int) ≤ i then some (i + n).toNat else none
def atIx {γ : Type} (xs : List γ) (i : Int) : Option γ := (ixOf xs.length i).bind fun j => xs[j]?
def oIx : D → D → Hh → Res D
  | .tup xs, .int i, h => match atIx xs i with
    | some d => .ok d h
    | none => .bad
  | .str s, .int i, h => if s.length ≤ SL then (match atIx s i with
    | some c => .ok (.str [c]) h
    | none => .bad) else .bad
  | x, .int i, h => match listOf h x with
    | some xs => (match atIx xs i with
      | some d => .ok d h
      | none => .bad)
    | none => .bad
  | _, _, _ => .bad
def sIdx (n d : Nat) : Option Int → Nat
  | none => d
  | some v => if v < 0 then (v + (n : Int)).toNat else min v.toNat n
def cut {γ : Type} (xs : List γ) (lo hi : Option Int) : List γ := (xs.drop (sIdx xs.length 0 lo)).take (sIdx xs.length xs.length hi - sIdx xs.length 0 lo)
def oSl (x : D) (lo hi : Option Int) (h : Hh) : Res D := match x with
  | .tup xs => .ok (.tup (cut xs lo hi)) h
  | .str s => if s.length ≤ SL then .ok (.str (cut s lo hi)) h else .bad
  | x => match listOf h x with
    | some xs => .ok (.ref h.length) (h ++ [.lst (cut xs lo hi)])
    | none => .bad
abbrev ODen := En → Hh → Res (Option Int)
def pNone : ODen := fun _ h => .ok none h
def pSome (a : Den) : ODen := fun e h => (a e h).bind fun x h1 => match x with
  | .int i => .ok (some i) h1
  | _ => .bad
def dSl (a : Den) (lo hi : ODen) : Den := fun e h => (a e h).bind fun x h1 => (lo e h1).bind fun l h2 => (hi e h2).bind fun u h3 => oSl x l u h3

/-! ### built-ins by name -/
def bLen : List D → Hh → Res D
  | [.tup xs], h => .ok (.int xs.length) h
  | [.str s], h => if s.length ≤ SL then .ok (.int s.length) h else .bad
  | [.ref n], h => match h[n]? with
    | some (.lst xs) => .ok (.int xs.length) h
    | some (.dk kvs) => .ok (.int kvs.length) h
    | _ => .bad
  | [.rl xs], h => .ok (.int xs.length) h
  | _, _ => .bad
def bList : List D → Hh → Res D
  | [.tup xs], h => .ok (.ref h.length) (h ++ [.lst xs])
  | [x], h => match listOf h x with
    | some xs => .ok (.ref h.length) (h ++ [.lst xs])
    | none => .bad
  | _, _ => .bad
def bTuple : List D → Hh → Res D
  | [.tup xs], h => .ok (.tup xs) h
  | [x], h => match listOf h x with
    | some xs => .ok (.tup xs) h
    | none => .bad
  | _, _ => .bad
def bInt : List D → Hh → Res D
  | [.int i], h => .ok (.int i) h
  | [.bl b], h => .ok (.int (if b then 1 else 0)) h
  | _, _ => .bad
def bAbs : List D → Hh → Res D
  | [.int i], h => .ok (.int (if i < 0 then -i else i)) h
  | _, _ => .bad
def intsOf : List D → Option (List Int)
  | [] => some []
  | .int i :: ds => (intsOf ds).map (i :: ·)
  | _ :: _ => none
def blsOf : List D → Option (List Bool)
  | [] => some []
  | .bl b :: ds => (blsOf ds).map (b :: ·)
  | _ :: _ => none
def strsOf : List D → Option (List (List Nat))
  | [] => some []
  | .str s :: ds => (strsOf ds).map (s :: ·)
  | _ :: _ => none
def bSum : List D → Hh → Res D
  | [x], h => match (listOf h x).bind intsOf with
    | some is => .ok (.int is.sum) h
    | none => .bad
  | _, _ => .bad
def bAll : List D → Hh → Res D
  | [x], h => match (listOf h x).bind blsOf with
    | some bs => .ok (.bl (bs.all id)) h
    | none => .bad
  | _, _ => .bad
def bAny : List D → Hh → Res D
  | [x], h => match (listOf h x).bind blsOf with
    | some bs => .ok (.bl (bs.any id)) h
    | none => .bad
  | _, _ => .bad
def bMax2 : List D → Hh → Res D
  | [.int i, .int j], h => .ok (.int (if j > i then j else i)) h
  | _, _ => .bad
def bMin2 : List D → Hh → Res D
  | [.int i, .int j], h => .ok (.int (if j < i then j else i)) h
  | _, _ => .bad
def maxL : Int → List Int → Int
  | m, [] => m
  | m, i :: is => maxL (if i > m then i else m) is
def minL : Int → List Int → Int
  | m, [] => m
  | m, i :: is => minL (if i < m then i else m) is
/-- max, min of a list -/
def bMax1 : List D → Hh → Res D
  | [x], h => match (listOf h x).bind intsOf with
    | some (i :: is) => .ok (.int (maxL i is)) h
    | _ => .bad
  | _, _ => .bad
def bMin1 : List D → Hh → Res D
  | [x], h => match (listOf h x).bind intsOf with
    | some (i :: is) => .ok (.int (minL i is)) h
    | _ => .bad
  | _, _ => .bad
/-- xs[::-1] of a list -/
def oRev (x : D) (h : Hh) : Res D := match listOf h x with
  | some xs => .ok (.ref h.length) (h ++ [.lst xs.reverse])
  | none => .bad
/-- isinstance with a built-in class -/
inductive Ty where
  | int | bool | str | tuple | list | dict
  deriving DecidableEq
def isA (h : Hh) (t : Ty) : D → Option Bool
  | .non => some false
  | .bl _ => some (decide (t = .bool ∨ t = .int))
  | .int _ => some (decide (t = .int))
  | .str _ => some (decide (t = .str))
  | .tup _ => some (decide (t = .tuple))
  | .ref n => match h[n]? with
    | some (.lst _) => some (decide (t = .list))
    | some (.dk _) => some (decide (t = .dict))
    | some (.dt _) => some (decide (t = .dict))
    | _ => none
  | .rl _ => some (decide (t = .list))
  | .cv _ => none
def dIsA (t : Ty) (a : Den) : Den := fun e h => (a e h).bind fun x h1 => match isA h1 t x with
  | some b => .ok (.bl b) h1
  | none => .bad

/-! ### methods of lists -/
def lineI (i : Int) : Prop := -(2 ^ 62) ≤ i ∧ i < 2 ^ 62
instance (i : Int) : Decidable (lineI i) := inferInstanceAs (Decidable (_ ∧ _))
def mAppend : D → List D → Hh → Res D
  | .ref n, [d], h => match h[n]? with
    | some (.lst xs) => if xs.length < SL then .ok .non (h.set n (.lst (xs ++ [d]))) else .bad
    | _ => .bad
  | _, _, _ => .bad
/-- ys itself: another list that stands by itself -/
def mExtend : D → List D → Hh → Res D
  | .ref n, [.ref m], h => match h[n]?, h[m]? with
    | some (.lst xs), some (.lst ys) => if xs.length + ys.length ≤ SL then .ok .non (h.set n (.lst (xs ++ ys))) else .bad
    | _, _ => .bad
  | _, _, _ => .bad
def mPop : D → List D → Hh → Res D
  | .ref n, [], h => match h[n]? with
    | some (.lst xs) => (match xs.getLast? with
      | some d => .ok d (h.set n (.lst xs.dropLast))
      | none => .bad)
    | _ => .bad
  | _, _, _ => .bad
def mPopAt : D → List D → Hh → Res D
  | .ref n, [.int i], h => match h[n]? with
    | some (.lst xs) => if lineI i then (match ixOf xs.length i with
      | some k => (match xs[k]? with
        | some d => .ok d (h.set n (.lst (xs.eraseIdx k)))
        | none => .bad)
      | none => .bad) else .bad
    | _ => .bad
  | _, _, _ => .bad
def isLst (h : Hh) (d : D) : Bool := (listOf h d).isSome
def dMeth (f : D → List D → Hh → Res D) (a : Den) (r : ADen) : Den := fun e h => (a e h).bind fun x h1 => if isLst h1 x = true then (r e h1).bind fun xs h2 => f x xs h2 else .bad

/-- the place of the first item that equals x -/
def idxOf (x : D) : List D → Option Nat
  | [] => none
  | y :: ys => if D.eqv y x = true then some 0 else (idxOf x ys).map (· + 1)
def mIndex : D → List D → Hh → Res D := fun o as h => match as with
  | [d] => match listOf h o with
    | some xs => if (D.fitL xs && d.fit) = true then (match idxOf d xs with
      | some j => .ok (.int (j : Nat)) h
      | none => .bad) else .bad
    | none => .bad
  | _ => .bad
/-- str(n) -/
def decStr (i : Int) : List Nat := (toString i).toList.map Char.toNat
def bStr : List D → Hh → Res D
  | [.int i], h => if i.natAbs.log2 < 1920 then .ok (.str (decStr i)) h else .bad
  | _, _ => .bad

/-! ### what is walked -/
/-- items that stand still | a list that has to stand still | a count -/
inductive Wk where
  | its (xs : List D) | lst (n : Nat) (xs : List D) | rng (lo : Int) (n : Nat)
  /-- a list walked from its end -/
  | rvl (n : Nat) (xs : List D)
  /-- a list walked with its places -/
  | enl (n : Nat) (xs : List D)
  /-- two lists walked side by side -/
  | zpl (m : Nat) (xs : List D) (n : Nat) (ys : List D)
abbrev WDen := En → Hh → Res Wk
def wSeq (a : Den) : WDen := fun e h => (a e h).bind fun x h1 => match x with
  | .tup xs => .ok (.its xs) h1
  | .rl xs => .ok (.its xs) h1
  | .ref n => match lstAt h1 n with
    | some xs => .ok (.lst n xs) h1
    | none => .bad
  | _ => .bad
def wStr (a : Den) : WDen := fun e h => (a e h).bind fun x h1 => match x with
  | .str s => .ok (.its (s.map fun c => .str [c])) h1
  | _ => .bad
def wRng1 (a : Den) : WDen := fun e h => (a e h).bind fun x h1 => match x with
  | .int j => if lineI j then .ok (.rng 0 j.toNat) h1 else .bad
  | _ => .bad
def wRng2 (a b : Den) : WDen := fun e h => (a e h).bind fun x h1 => (b e h1).bind fun y h2 => match x, y with
  | .int i, .int j => if lineI i ∧ lineI j then .ok (.rng i (j - i).toNat) h2 else .bad
  | _, _ => .bad
def zipD : List D → List D → List D
  | x :: xs, y :: ys => .tup [x, y] :: zipD xs ys
  | _, _ => []
theorem zipD_at : ∀ {xs ys : List D} {i : Nat} {d : D}, (zipD xs ys)[i]? = some d → ∃ x y, xs[i]? = some x ∧ ys[i]? = some y ∧ d = .tup [x, y]
  | [], _, _, _, e => by simp [zipD] at e
  | _ :: _, [], _, _, e => by simp [zipD] at e
  | x :: xs, y :: ys, 0, d, e => by
    simp [zipD] at e
    exact ⟨x, y, rfl, rfl, e.symm⟩
  | x :: xs, y :: ys, i + 1, d, e => by
    obtain ⟨x', y', h1, h2, h3⟩ := zipD_at (xs := xs) (ys := ys) (i := i) (d := d) (by simpa [zipD] using e)
    exact ⟨x', y', by simpa using h1, by simpa using h2, h3⟩
theorem zipD_len : ∀ (xs ys : List D), (zipD xs ys).length = min xs.length ys.length
  | [], _ => by simp [zipD]
  | _ :: _, [] => by simp [zipD]
  | x :: xs, y :: ys => by
    simp only [zipD, List.length_cons, zipD_len xs ys]
    omega
def enumD (i : Nat) : List D → List D
  | [] => []
  | x :: xs => .tup [.int (i : Nat), x] :: enumD (i + 1) xs
/-- the items -/
def Wk.items : Wk → List D
  | .its xs => xs
  | .lst _ xs => xs
  | .rvl _ xs => xs.reverse
  | .enl _ xs => enumD 0 xs
  | .zpl _ xs _ ys => zipD xs ys
  | .rng lo n => (List.range n).map fun (i : Nat) => D.int (lo + (i : Int))
/-- it stands still in h -/
def Wk.still (h : Hh) : Wk → Bool
  | .its _ => true
  | .lst n xs => match lstAt h n with
    | some ys => D.sameL ys xs
    | none => false
  | .rvl n xs => match lstAt h n with
    | some ys => D.sameL ys xs
    | none => false
  | .enl n xs => match lstAt h n with
    | some ys => D.sameL ys xs
    | none => false
  | .zpl m xs n ys => match lstAt h m, lstAt h n with
    | some us, some vs => D.sameL us xs && D.sameL vs ys
    | _, _ => false
  | .rng _ _ => true
theorem Wk.still_lst {h : Hh} {n : Nat} {xs : List D} (e : lstAt h n = some xs) : Wk.still h (.lst n xs) = true := by
  simp only [Wk.still, e]
  exact D.sameL_refl xs

theorem Wk.still_zpl {h : Hh} {m n : Nat} {xs ys : List D} (e : lstAt h m = some xs) (e2 : lstAt h n = some ys) : Wk.still h (.zpl m xs n ys) = true := by
  simp only [Wk.still, e, e2, D.sameL_refl]
  rfl
theorem Wk.still_enl {h : Hh} {n : Nat} {xs : List D} (e : lstAt h n = some xs) : Wk.still h (.enl n xs) = true := by
  simp only [Wk.still, e]
  exact D.sameL_refl xs
theorem Wk.still_rvl {h : Hh} {n : Nat} {xs : List D} (e : lstAt h n = some xs) : Wk.still h (.rvl n xs) = true := by
  simp only [Wk.still, e]
  exact D.sameL_refl xs
/-- reversed(x) -/
def wRev (a : Den) : WDen := fun e h => (a e h).bind fun x h1 => match x with
  | .tup xs => .ok (.its xs.reverse) h1
  | .rl xs => .ok (.its xs.reverse) h1
  | .ref n => match lstAt h1 n with
    | some xs => .ok (.rvl n xs) h1
    | none => .bad
  | _ => .bad

/-- zip(x, y) of two tuples, two lists -/
def wZip (a b : Den) : WDen := fun e h => (a e h).bind fun x h1 => (b e h1).bind fun y h2 => match x, y with
  | .tup xs, .tup ys => .ok (.its (zipD xs ys)) h2
  | .ref m, .ref n => match lstAt h2 m, lstAt h2 n with
    | some xs, some ys => .ok (.zpl m xs n ys) h2
    | _, _ => .bad
  | _, _ => .bad
/-- list(zip(x, y)) of two tuples -/
def dZipL (a b : Den) : Den := fun e h => (a e h).bind fun x h1 => (b e h1).bind fun y h2 => match x, y with
  | .tup xs, .tup ys => .ok (.ref h2.length) (h2 ++ [.lst (zipD xs ys)])
  | _, _ => .bad
theorem enumD_len : ∀ (i : Nat) (xs : List D), (enumD i xs).length = xs.length
  | _, [] => rfl
  | i, x :: xs => by rw [enumD, List.length_cons, List.length_cons, enumD_len]
theorem enumD_at : ∀ {i j : Nat} {xs : List D} {d : D}, (enumD i xs)[j]? = some d → ∃ x, xs[j]? = some x ∧ d = .tup [.int ((i + j : Nat) : Int), x]
  | _, _, [], _, e => by simp [enumD] at e
  | i, 0, x :: xs, d, e => by
    simp [enumD] at e
    exact ⟨x, rfl, e.symm⟩
  | i, j + 1, x :: xs, d, e => by
    obtain ⟨y, h1, h2⟩ := enumD_at (i := i + 1) (j := j) (xs := xs) (d := d) (by simpa [enumD] using e)
    refine ⟨y, by simpa using h1, ?_⟩
    rw [h2, show i + 1 + j = i + (j + 1) by omega]
/-- enumerate(x) -/
def wEnum (a : Den) : WDen := fun e h => (a e h).bind fun x h1 => match x with
  | .tup xs => .ok (.its (enumD 0 xs)) h1
  | .rl xs => .ok (.its (enumD 0 xs)) h1
  | .ref n => match lstAt h1 n with
    | some xs => .ok (.enl n xs) h1
    | none => .bad
  | _ => .bad
/-- sep.join(xs) -/
def joinN (s : List Nat) : List (List Nat) → List Nat
  | [] => []
  | [p] => p
  | p :: q :: r => p ++ (s ++ joinN s (q :: r))
def joinOk (s : List Nat) (ys : List (List Nat)) : Bool := decide ((ys.map List.length).sum + ys.length * s.length ≤ SL)
def itemsOf (h : Hh) : D → Option (List D)
  | .tup xs => some xs
  | x => listOf h x
def oJoin : D → D → Hh → Res D
  | .str s, x, h => match (itemsOf h x).bind strsOf with
    | some ys => if joinOk s ys = true then .ok (.str (joinN s ys)) h else .bad
    | none => .bad
  | _, _, _ => .bad
def isStr : D → Bool
  | .str _ => true
  | _ => false
def dJoin (a b : Den) : Den := fun e h => (a e h).bind fun x h1 => if isStr x = true then (b e h1).bind fun y h2 => oJoin x y h2 else .bad
/-! ### targets -/
abbrev GDen := D → En → Hh → Res En
def gNm (i : Nat) : GDen := fun d e h => .ok (e.set i (some d)) h
abbrev GsDen := List D → En → Hh → Res En
def gsNil : GsDen := fun ds e h => match ds with
  | [] => .ok e h
  | _ => .bad
def gsCons (g : GDen) (r : GsDen) : GsDen := fun ds e h => match ds with
  | d :: ds => (g d e h).bind fun e1 h1 => r ds e1 h1
  | [] => .bad
/-- (a, b, ..) = a tuple of that length -/
def gTp (n : Nat) (g : GsDen) : GDen := fun d e h => match d with
  | .tup ds => if ds.length = n then g ds e h else .bad
  | _ => .bad
/-- o[i] = d -/
def setAt (o i d : D) (h : Hh) : Res D := match o, i with
  | .ref n, .int k => match h[n]? with
    | some (.lst xs) => (match ixOf xs.length k with
      | some j => .ok .non (h.set n (.lst (xs.set j d)))
      | none => .bad)
    | _ => .bad
  | _, _ => .bad
def gSb (o i : Den) : GDen := fun d e h => (o e h).bind fun x h1 => (i e h1).bind fun y h2 => (setAt x y d h2).bind fun _ h3 => .ok e h3

/-! ### comprehensions -/
def forget (e : En) : List Nat → En
  | [] => e
  | v :: vs => (forget e vs).set v none
/-- the turns of [elt for g in items if t] -/
def compGo (w : Wk) (vs : List Nat) (g : GDen) (t : TDen) (elt : Den) (e : En) : List D → List D → Hh → Res (List D)
  | [], acc, h => if w.still h then .ok acc h else .bad
  | d :: ds, acc, h => if w.still h then (g d (forget e vs) h).bn fun e1 h1 => (t e1 h1).bn fun b h2 =>
      if b = true then (elt e1 h2).bn fun x h3 => if acc.length < SL then compGo w vs g t elt e ds (acc ++ [x]) h3 else .bad else compGo w vs g t elt e ds acc h2
    else .bad
/-- the items of the comprehension, no list made -/
def aComp (w : WDen) (vs : List Nat) (g : GDen) (t : TDen) (elt : Den) : ADen := fun e h => (w e h).bind fun k h1 => compGo k vs g t elt e k.items [] h1
def tYes : TDen := fun _ h => .ok true h
/-- a new list -/
def dLc (a : ADen) : Den := fun e h => (a e h).bind fun xs h1 => .ok (.ref h1.length) (h1 ++ [.lst xs])
/-- tuple([..]), all([..]), any([..]), sum([..]): the list itself is forgotten -/
def fTup (ds : List D) (h : Hh) : Res D := .ok (.tup ds) h
def fAll (ds : List D) (h : Hh) : Res D := match blsOf ds with
  | some bs => .ok (.bl (bs.all id)) h
  | none => .bad
def fAny (ds : List D) (h : Hh) : Res D := match blsOf ds with
  | some bs => .ok (.bl (bs.any id)) h
  | none => .bad
def fSum (ds : List D) (h : Hh) : Res D := match intsOf ds with
  | some is => .ok (.int is.sum) h
  | none => .bad
/-- x.extend([..]) -/
def mExtL : D → List D → Hh → Res D
  | .ref n, ys, h => match h[n]? with
    | some (.lst xs) => if xs.length + ys.length ≤ SL then .ok .non (h.set n (.lst (xs ++ ys))) else .bad
    | _ => .bad
  | _, _, _ => .bad

/-! ### statements -/
/-- an expression's exception becomes the statement's -/
def Res.sb (r : Res α) (e : En) (k : α → Hh → Res Fl) : Res Fl := match r with
  | .bad => .bad
  | .ok a h => k a h
  | .exc c fs h => .ok (.xc c fs e) h
@[simp] theorem sb_bad {e : En} {k : α → Hh → Res Fl} : Res.sb .bad e k = .bad := rfl
@[simp] theorem sb_ok {a : α} {h : Hh} {e : En} {k : α → Hh → Res Fl} : Res.sb (.ok a h) e k = k a h := rfl
@[simp] theorem sb_exc {c : Nat} {fs : List (List Nat × D)} {h : Hh} {e : En} {k : α → Hh → Res Fl} : Res.sb (.exc c fs h) e k = .ok (.xc c fs e) h := rfl
def sNil : SDen := fun e h => .ok (.nx e) h
def sSeq (a b : SDen) : SDen := fun e h => (a e h).bind fun f h1 => match f with
  | .nx e1 => b e1 h1
  | o => .ok o h1
def sExpr (a : Den) : SDen := fun e h => (a e h).sb e fun _ h1 => .ok (.nx e) h1
def sRet (a : Den) : SDen := fun e h => (a e h).sb e fun x h1 => .ok (.rt x) h1
def sRetN : SDen := fun _ h => .ok (.rt .non) h
def sBreak : SDen := fun e h => .ok (.bk e) h
def sCont : SDen := fun e h => .ok (.ct e) h
def sAsg (a : Den) (g : GDen) : SDen := fun e h => (a e h).sb e fun x h1 => (g x e h1).sb e fun e1 h2 => .ok (.nx e1) h2
/-- a, b = x, y -/
def sPar (i j : Nat) (a b : Den) : SDen := fun e h => (a e h).sb e fun x h1 => (b e h1).sb e fun y h2 => .ok (.nx ((e.set i (some x)).set j (some y))) h2
/-- x op= a -/
def sAug (i : Nat) (f : D → D → Hh → Res D) (a : Den) : SDen := fun e h => match e[i]? with
  | some (some x) => (a e h).sb e fun y h1 => (f x y h1).sb e fun z h2 => .ok (.nx (e.set i (some z))) h2
  | _ => .bad
/-- o[i] = a, o a dict: a, o, i are read in this order -/
def sDSet (o i a : Den) : SDen := fun e h => (a e h).sb e fun v h1 => (o e h1).sb e fun x h2 => (i e h2).sb e fun y h3 => (dkPut x y v h3).sb e fun _ h4 => .ok (.nx e) h4
/-- o[i] op= a -/
def sDAug (f : D → D → Hh → Res D) (o i a : Den) : SDen := fun e h => (o e h).sb e fun x h1 => (i e h1).sb e fun y h2 => match dkGet h2 x y with
  | some (some v) => (a e h2).sb e fun w h3 => (f v w h3).sb e fun z h4 => (dkPut x y z h4).sb e fun _ h5 => .ok (.nx e) h5
  | _ => .bad
def sIf (t : TDen) (a b : SDen) : SDen := fun e h => (t e h).sb e fun x h1 => if x = true then a e h1 else b e h1
/-- the turns of a for -/
def forGo (w : Wk) (g : GDen) (b : SDen) : List D → En → Hh → Res Fl
  | [], e, h => if w.still h then .ok (.nx e) h else .bad
  | d :: ds, e, h => if w.still h then (g d e h).sb e fun e1 h1 => (b e1 h1).bind fun f h2 => match f with
      | .nx e2 => forGo w g b ds e2 h2
      | .ct e2 => forGo w g b ds e2 h2
      | .bk e2 => .ok (.nx e2) h2
      | .rt d => .ok (.rt d) h2
      | .xc c fs e2 => .ok (.xc c fs e2) h2
    else .bad
def sFor (w : WDen) (g : GDen) (b : SDen) : SDen := fun e h => (w e h).sb e fun k h1 => forGo k g b k.items e h1
/-- the turns of a while, at most n of them -/
def whGo (t : TDen) (b : SDen) : Nat → En → Hh → Res Fl
  | 0, _, _ => .bad
  | n + 1, e, h => (t e h).sb e fun x h1 => if x = true then (b e h1).bind fun f h2 => match f with
      | .nx e2 => whGo t b n e2 h2
      | .ct e2 => whGo t b n e2 h2
      | .bk e2 => .ok (.nx e2) h2
      | .rt d => .ok (.rt d) h2
      | .xc c fs e2 => .ok (.xc c fs e2) h2
    else .ok (.nx e) h1
def WF : Nat := 1000000000000
def sWhile (t : TDen) (b : SDen) : SDen := fun e h => whGo t b WF e h

/-- what the plain side has to show unreached -/
def dBad : Den := fun _ _ => .bad
def sBad : SDen := fun _ _ => .bad
/-! ### defs -/
abbrev Cal := Nat → List D → Hh → Res D
def dCall (c : Cal) (k : Nat) (a : ADen) : Den := fun e h => (a e h).bind fun xs h1 => c k xs h1
/-- the arguments' number is asked of the denotation -/
def dCallN (c : Cal) (k np : Nat) (a : ADen) : Den := fun e h => (a e h).bind fun xs h1 => if xs.length = np then c k xs h1 else .bad
def dCall0 (c : Cal) (k : Nat) : Den := fun _ h => match c k [] h with
  | .ok d h1 => .ok d h1
  | _ => .bad
/-- a body run at its parameters: n names in all -/
def runBody (n : Nat) (b : SDen) (ps : Nat) (ds : List D) (h : Hh) : Res D :=
  if ds.length = ps then (b (ds.map some ++ List.replicate (n - ps) none) h).bn fun f h1 => match f with
    | .rt d => .ok d h1
    | .nx _ => .ok .non h1
    | .xc c fs _ => .exc c fs h1
    | _ => .bad
  else .bad
/-- a def: all its names, its parameters, its body over the others -/
structure Df where
  n : Nat
  ps : Nat
  b : Cal → SDen
def sem (T : Nat → Df) : Nat → Cal
  | 0, _, _, _ => .bad
  | f + 1, k, ds, h => runBody (T k).n ((T k).b (sem T f)) (T k).ps ds h
end PI
/-! ## Pi1 -/
set_option Elab.async false
set_option linter.all false
set_option maxRecDepth 100000
set_option maxHeartbeats 1000000
set_option autoImplicit false
/-! PI, part 1: each denotation is what the model does. -/
namespace PI
open PySem L2
/-- the written part, the constants' values, the exceptions' classes -/
structure Gx where
  K : PySem.W.Frag
  cv : Nat → V
  cm : Nat → Value
/-- a list that no one writes: locked, or of the written part -/
def SqR (K : PySem.W.Frag) (H : Hp) (a : Addr) (xs : List V) : Prop :=
  (∃ u, H a = some (.frz u (.lst xs))) ∨
    ∃ (o : Obj) (its : Array Value) (n : Nat), K.lookup a = some o ∧ o.cls = .type "list" ∧ o.dict = none ∧ o.data = .seq its n ∧ its.size ≤ sizeLine ∧ Vals xs its.toList
theorem SqR.sq {K : PySem.W.Frag} {H : Hp} {a : Addr} {xs : List V} (h : SqR K H a xs) : SqL K H a xs := by
  rcases h with h | h
  · exact .inl (.inr h)
  · exact .inr h
mutual
inductive RD (G : Gx) (ρ : List Addr) (H : Hp) : V → D → Prop
  | non : RD G ρ H .non .non
  | bl (b : Bool) : RD G ρ H (.bl b) (.bl b)
  | int (i : Int) : RD G ρ H (.int i) (.int i)
  | str (x : Str) : RD G ρ H (.str x) (.str x.cps.toList)
  | tup {a : Addr} {vs : List V} {ds : List D} : SqT G.K H a vs → RDs G ρ H vs ds → RD G ρ H (.ref a) (.tup ds)
  | ref {a : Addr} {n : Nat} : ρ[n]? = some a → RD G ρ H (.ref a) (.ref n)
  | cv (n : Nat) : RD G ρ H (G.cv n) (.cv n)
  | rl {a : Addr} {vs : List V} {ds : List D} : SqR G.K H a vs → RDs G ρ H vs ds → RD G ρ H (.ref a) (.rl ds)
inductive RDs (G : Gx) (ρ : List Addr) (H : Hp) : List V → List D → Prop
  | nil : RDs G ρ H [] []
  | cons {v : V} {vs : List V} {d : D} {ds : List D} : RD G ρ H v d → RDs G ρ H vs ds → RDs G ρ H (v :: vs) (d :: ds)
end
structure Le (G : Gx) (ρ : List Addr) (H : Hp) (ρ' : List Addr) (H' : Hp) : Prop where
  pre : ∃ t, ρ' = ρ ++ t ∧ ∀ b ∈ t, H b = none
  tup : ∀ a vs, SqT G.K H a vs → SqT G.K H' a vs
  rol : ∀ a vs, SqR G.K H a vs → SqR G.K H' a vs
  /-- what is tracked beside the plain heap stays as it is -/
  keep : ∀ (b : Addr) (o : HO), H b = some o → b ∉ ρ → H' b = some o
  stay : ∀ (b : Addr) (o : HO), H b = some o → ∃ u, H' b = some u
section
variable {G : Gx} {ρ ρ' ρ'' : List Addr} {H H' H'' : Hp} {v : V} {d : D} {vs ws : List V} {ds es : List D}
theorem Le.refl : Le G ρ H ρ H := ⟨⟨[], by simp⟩, fun _ _ h => h, fun _ _ h => h, fun _ _ h _ => h, fun _ o h => ⟨o, h⟩⟩
theorem Le.trans (a : Le G ρ H ρ' H') (b : Le G ρ' H' ρ'' H'') : Le G ρ H ρ'' H'' := by
  obtain ⟨t, rfl, ht⟩ := a.pre
  obtain ⟨u, rfl, hu⟩ := b.pre
  refine ⟨⟨t ++ u, by simp, fun x hx => ?_⟩, fun x y h => b.tup x y (a.tup x y h), fun x y h => b.rol x y (a.rol x y h), fun x o h hx => ?_, fun x o h => ?_⟩
  · rcases List.mem_append.mp hx with hx | hx
    · exact ht x hx
    · cases e : H x with
      | none => rfl
      | some o =>
        obtain ⟨w, q⟩ := a.stay x o e
        rw [hu x hx] at q
        cases q
  · refine b.keep x o (a.keep x o h hx) fun hm => ?_
    rcases List.mem_append.mp hm with hm | hm
    · exact hx hm
    · rw [ht x hm] at h
      cases h
  · obtain ⟨w, q⟩ := a.stay x o h
    exact b.stay x w q
theorem Le.at (a : Le G ρ H ρ' H') {n : Nat} {x : Addr} (h : ρ[n]? = some x) : ρ'[n]? = some x := by
  obtain ⟨t, rfl, _⟩ := a.pre
  have hn := (List.getElem?_eq_some_iff.mp h).1
  rw [List.getElem?_append_left hn]
  exact h
mutual
theorem RD.mono (l : Le G ρ H ρ' H') : ∀ {v : V} {d : D}, RD G ρ H v d → RD G ρ' H' v d
  | _, _, .non => .non
  | _, _, .bl b => .bl b
  | _, _, .int i => .int i
  | _, _, .str x => .str x
  | _, _, .tup h r => .tup (l.tup _ _ h) (RDs.mono l r)
  | _, _, .ref h => .ref (l.at h)
  | _, _, .cv n => .cv n
  | _, _, .rl h r => .rl (l.rol _ _ h) (RDs.mono l r)
theorem RDs.mono (l : Le G ρ H ρ' H') : ∀ {vs : List V} {ds : List D}, RDs G ρ H vs ds → RDs G ρ' H' vs ds
  | _, _, .nil => .nil
  | _, _, .cons a b => .cons (RD.mono l a) (RDs.mono l b)
end
mutual
theorem RD.mono2 (h1 : ∀ a vs, SqT G.K H a vs → SqT G.K H' a vs) (h2 : ∀ a vs, SqR G.K H a vs → SqR G.K H' a vs) : ∀ {v : V} {d : D}, RD G ρ H v d → RD G ρ H' v d
  | _, _, .non => .non
  | _, _, .bl b => .bl b
  | _, _, .int i => .int i
  | _, _, .str x => .str x
  | _, _, .tup h r => .tup (h1 _ _ h) (RDs.mono2 h1 h2 r)
  | _, _, .ref h => .ref h
  | _, _, .cv n => .cv n
  | _, _, .rl h r => .rl (h2 _ _ h) (RDs.mono2 h1 h2 r)
theorem RDs.mono2 (h1 : ∀ a vs, SqT G.K H a vs → SqT G.K H' a vs) (h2 : ∀ a vs, SqR G.K H a vs → SqR G.K H' a vs) : ∀ {vs : List V} {ds : List D}, RDs G ρ H vs ds → RDs G ρ H' vs ds
  | _, _, .nil => .nil
  | _, _, .cons a b => .cons (RD.mono2 h1 h2 a) (RDs.mono2 h1 h2 b)
end
mutual
theorem RD.grow (t : List Addr) : ∀ {v : V} {d : D}, RD G ρ H v d → RD G (ρ ++ t) H v d
  | _, _, .non => .non
  | _, _, .bl b => .bl b
  | _, _, .int i => .int i
  | _, _, .str x => .str x
  | _, _, .tup h r => .tup h (RDs.grow t r)
  | _, _, .ref h => .ref (by rw [List.getElem?_append_left (List.getElem?_eq_some_iff.mp h).1]; exact h)
  | _, _, .cv n => .cv n
  | _, _, .rl h r => .rl h (RDs.grow t r)
theorem RDs.grow (t : List Addr) : ∀ {vs : List V} {ds : List D}, RDs G ρ H vs ds → RDs G (ρ ++ t) H vs ds
  | _, _, .nil => .nil
  | _, _, .cons a b => .cons (RD.grow t a) (RDs.grow t b)
end
theorem RDs.length : ∀ {vs : List V} {ds : List D}, RDs G ρ H vs ds → vs.length = ds.length
  | _, _, .nil => rfl
  | _, _, .cons _ r => congrArg (· + 1) r.length
theorem RDs.get : ∀ {vs : List V} {ds : List D} {i : Nat} {d : D}, RDs G ρ H vs ds → ds[i]? = some d → ∃ v, vs[i]? = some v ∧ RD G ρ H v d
  | _, _, _, _, .nil, e => by simp at e
  | _, _, 0, _, .cons a _, e => by
    simp at e
    subst e
    exact ⟨_, rfl, a⟩
  | _, _, i + 1, d, .cons _ r, e => by
    obtain ⟨v, h1, h2⟩ := RDs.get (i := i) (d := d) r (by simpa using e)
    exact ⟨v, by simpa using h1, h2⟩
theorem RDs.getV : ∀ {vs : List V} {ds : List D} {i : Nat} {v : V}, RDs G ρ H vs ds → vs[i]? = some v → ∃ d, ds[i]? = some d ∧ RD G ρ H v d
  | _, _, _, _, .nil, e => by simp at e
  | _, _, 0, _, .cons a _, e => by
    simp at e
    subst e
    exact ⟨_, rfl, a⟩
  | _, _, i + 1, d, .cons _ r, e => by
    obtain ⟨v, h1, h2⟩ := RDs.getV (i := i) (v := d) r (by simpa using e)
    exact ⟨v, by simpa using h1, h2⟩
theorem RDs.append : ∀ {vs : List V} {ds : List D}, RDs G ρ H vs ds → RDs G ρ H ws es → RDs G ρ H (vs ++ ws) (ds ++ es)
  | _, _, .nil, s => s
  | _, _, .cons a r, s => .cons a (r.append s)
theorem RDs.take : ∀ {vs : List V} {ds : List D} (n : Nat), RDs G ρ H vs ds → RDs G ρ H (vs.take n) (ds.take n)
  | _, _, 0, _ => by simpa using RDs.nil
  | _, _, _ + 1, .nil => .nil
  | _, _, n + 1, .cons a r => .cons a (r.take n)
theorem RDs.drop : ∀ {vs : List V} {ds : List D} (n : Nat), RDs G ρ H vs ds → RDs G ρ H (vs.drop n) (ds.drop n)
  | _, _, 0, r => r
  | _, _, _ + 1, .nil => .nil
  | _, _, n + 1, .cons _ r => r.drop n
theorem RDs.dropLast (r : RDs G ρ H vs ds) : RDs G ρ H vs.dropLast ds.dropLast := by
  rw [List.dropLast_eq_take, List.dropLast_eq_take, r.length]
  exact r.take _
theorem RDs.set (a : RD G ρ H v d) : ∀ {vs : List V} {ds : List D} (n : Nat), RDs G ρ H vs ds → RDs G ρ H (vs.set n v) (ds.set n d)
  | _, _, _, .nil => .nil
  | _, _, 0, .cons _ r => .cons a r
  | _, _, n + 1, .cons b r => .cons b (RDs.set a n r)
theorem RDs.eraseIdx : ∀ {vs : List V} {ds : List D} (n : Nat), RDs G ρ H vs ds → RDs G ρ H (vs.eraseIdx n) (ds.eraseIdx n)
  | _, _, _, .nil => .nil
  | _, _, 0, .cons _ r => r
  | _, _, n + 1, .cons b r => .cons b (RDs.eraseIdx n r)
theorem RDs.reverse : ∀ {vs : List V} {ds : List D}, RDs G ρ H vs ds → RDs G ρ H vs.reverse ds.reverse
  | _, _, .nil => .nil
  | _, _, .cons a r => by
    rw [List.reverse_cons, List.reverse_cons]
    exact (RDs.reverse r).append (.cons a .nil)
theorem RDs.one (a : RD G ρ H v d) : RDs G ρ H [v] [d] := .cons a .nil
end
def kyV : Ky → Key
  | .i n => .inl n
  | .s x => .inr ⟨x.toArray⟩
theorem kyV_inj {a b : Ky} (h : kyV a = kyV b) : a = b := by
  cases a <;> cases b <;> simp_all [kyV]
inductive RK {κ κ' : Type} (f : κ → κ') (G : Gx) (ρ : List Addr) (H : Hp) : List (κ' × V) → List (κ × D) → Prop
  | nil : RK f G ρ H [] []
  | cons {k : κ} {v : V} {d : D} {r : List (κ' × V)} {s : List (κ × D)} : RD G ρ H v d → RK f G ρ H r s → RK f G ρ H ((f k, v) :: r) ((k, d) :: s)
theorem RK.mono {κ κ' : Type} {f : κ → κ'} {G : Gx} {ρ ρ' : List Addr} {H H' : Hp} (l : Le G ρ H ρ' H') : ∀ {r : List (κ' × V)} {s : List (κ × D)}, RK f G ρ H r s → RK f G ρ' H' r s
  | _, _, .nil => .nil
  | _, _, .cons a r => .cons (a.mono l) (RK.mono l r)
theorem RK.mapD {κ κ' : Type} {f : κ → κ'} {G : Gx} {ρ ρ' : List Addr} {H H' : Hp} (l : ∀ {v : V} {d : D}, RD G ρ H v d → RD G ρ' H' v d) : ∀ {r : List (κ' × V)} {s : List (κ × D)}, RK f G ρ H r s → RK f G ρ' H' r s
  | _, _, .nil => .nil
  | _, _, .cons a r => .cons (l a) (RK.mapD l r)
theorem RK.length {κ κ' : Type} {f : κ → κ'} {G : Gx} {ρ : List Addr} {H : Hp} : ∀ {r : List (κ' × V)} {s : List (κ × D)}, RK f G ρ H r s → r.length = s.length
  | _, _, .nil => rfl
  | _, _, .cons _ r => congrArg (· + 1) r.length
/-- what an object is -/
def OR (G : Gx) (ρ : List Addr) (H : Hp) (a : Addr) : Ob → Prop
  | .lst ds => ∃ vs, H a = some (.lst vs) ∧ RDs G ρ H vs ds
  | .dk kvs => ∃ ks, H a = some (.dK ks) ∧ RK kyV G ρ H ks kvs
  | .dt kvs => ∃ ks, H a = some (.dT ks) ∧ RK (List.map kyV) G ρ H ks kvs
  | .ins _ _ => False
structure HR (G : Gx) (ρ : List Addr) (h : Hh) (H : Hp) : Prop where
  len : ρ.length = h.length
  nd : ρ.Nodup
  ok : ∀ (i : Nat) (a : Addr) (o : Ob), ρ[i]? = some a → h[i]? = some o → OR G ρ H a o
section
variable {G : Gx} {ρ ρ' : List Addr} {H H' : Hp} {h : Hh} {a p : Addr} {o : Ob} {ho : HO} {n : Nat}
theorem OR.there (x : OR G ρ H a o) : ∃ u, H a = some u := by
  cases o with
  | lst ds => obtain ⟨vs, e, _⟩ := x; exact ⟨_, e⟩
  | dk kvs => obtain ⟨vs, e, _⟩ := x; exact ⟨_, e⟩
  | dt kvs => obtain ⟨vs, e, _⟩ := x; exact ⟨_, e⟩
  | ins c fs => exact x.elim
theorem HR.there (x : HR G ρ h H) (m : a ∈ ρ) : ∃ u, H a = some u := by
  obtain ⟨i, hi, rfl⟩ := List.getElem_of_mem m
  have hi' : i < h.length := by rw [← x.len]; exact hi
  exact (x.ok i _ _ (List.getElem?_eq_getElem hi) (List.getElem?_eq_getElem hi')).there
theorem HR.notin (x : HR G ρ h H) (hp : H p = none) : p ∉ ρ := fun m => by
  obtain ⟨u, e⟩ := x.there m
  rw [hp] at e
  cases e
theorem OR.keep (x : OR G ρ H a o) (l : Le G ρ H ρ' H') (k : ∀ u, H a = some u → H' a = some u) : OR G ρ' H' a o := by
  cases o with
  | lst ds => obtain ⟨vs, e, r⟩ := x; exact ⟨vs, k _ e, r.mono l⟩
  | dk kvs => obtain ⟨vs, e, r⟩ := x; exact ⟨vs, k _ e, r.mono l⟩
  | dt kvs => obtain ⟨vs, e, r⟩ := x; exact ⟨vs, k _ e, r.mono l⟩
  | ins c fs => exact x.elim
theorem sqt_new {K : PySem.W.Frag} {vs : List V} (hp : H p = none) (h : SqT K H a vs) : SqT K (upd H p ho) a vs := by
  rcases h with (h | ⟨u, h⟩) | h
  · exact .inl (.inl (by rw [upd_ne (ne_of_none h hp)]; exact h))
  · exact .inl (.inr ⟨u, by rw [upd_ne (ne_of_none h hp)]; exact h⟩)
  · exact .inr h
theorem sqr_new {K : PySem.W.Frag} {vs : List V} (hp : H p = none) (h : SqR K H a vs) : SqR K (upd H p ho) a vs := by
  rcases h with ⟨u, h⟩ | h
  · exact .inl ⟨u, by rw [upd_ne (ne_of_none h hp)]; exact h⟩
  · exact .inr h
/-- no tuple, not locked -/
def openO : HO → Bool
  | .tup _ => false
  | .frz _ _ => false
  | _ => true
theorem sqt_set {K : PySem.W.Frag} {vs : List V} {u : HO} (hp : H p = some u) (hu : openO u = true) (h : SqT K H a vs) : SqT K (upd H p ho) a vs := by
  have ne : ∀ {o : HO}, H a = some o → openO o = false → a ≠ p := fun {o} e n z => by
    rw [z, hp] at e
    cases e
    rw [hu] at n
    cases n
  rcases h with (h | ⟨v, h⟩) | h
  · exact .inl (.inl (by rw [upd_ne (ne h rfl)]; exact h))
  · exact .inl (.inr ⟨v, by rw [upd_ne (ne h rfl)]; exact h⟩)
  · exact .inr h
theorem sqr_set {K : PySem.W.Frag} {vs : List V} {u : HO} (hp : H p = some u) (hu : openO u = true) (h : SqR K H a vs) : SqR K (upd H p ho) a vs := by
  rcases h with ⟨v, h⟩ | h
  · refine .inl ⟨v, ?_⟩
    rw [upd_ne fun z => ?_]
    · exact h
    · rw [z, hp] at h
      cases h
      cases hu
  · exact .inr h
theorem stay_upd : ∀ (b : Addr) (o : HO), H b = some o → ∃ u, upd H p ho b = some u := fun b o e => by
  by_cases q : b = p
  · exact ⟨ho, by rw [q]; exact upd_same⟩
  · exact ⟨o, by rw [upd_ne q]; exact e⟩
theorem Le.new (hp : H p = none) : Le G ρ H ρ (upd H p ho) := ⟨⟨[], by simp⟩, fun _ _ h => sqt_new hp h, fun _ _ h => sqr_new hp h, fun b o e _ => by rw [upd_ne (ne_of_none e hp)]; exact e, stay_upd⟩
theorem Le.new1 (hp : H p = none) : Le G ρ H (ρ ++ [p]) (upd H p ho) := ⟨⟨[p], rfl, fun b hb => by rw [List.mem_singleton.mp hb]; exact hp⟩, fun _ _ h => sqt_new hp h, fun _ _ h => sqr_new hp h, fun b o e _ => by rw [upd_ne (ne_of_none e hp)]; exact e, stay_upd⟩
/-- an object of the plain heap is changed -/
theorem Le.set {u : HO} (hm : p ∈ ρ) (hp : H p = some u) (hu : openO u = true) : Le G ρ H ρ (upd H p ho) := ⟨⟨[], by simp⟩, fun _ _ h => sqt_set hp hu h, fun _ _ h => sqr_set hp hu h, fun b o e hb => by
  have nb : b ≠ p := fun z => hb (by rw [z]; exact hm)
  rw [upd_ne nb]
  exact e, stay_upd⟩
/-- a new thing beside: a tuple, a list that is forgotten -/
theorem HR.beside (x : HR G ρ h H) (hp : H p = none) : HR G ρ h (upd H p ho) :=
  ⟨x.len, x.nd, fun i a o e1 e2 => (x.ok i a o e1 e2).keep (Le.new hp) fun u e => by rw [upd_ne (ne_of_none e hp)]; exact e⟩
/-- a thing beside is changed -/
theorem HR.beside2 {u : HO} (x : HR G ρ h H) (hm : p ∉ ρ) (hp : H p = some u) (hu : openO u = true) : HR G ρ h (upd H p ho) := by
  refine ⟨x.len, x.nd, fun i a o e1 e2 => ?_⟩
  have na : a ≠ p := fun z => hm (by rw [← z]; exact List.mem_of_getElem? e1)
  have q := x.ok i a o e1 e2
  have mono : ∀ {v : V} {d : D}, RD G ρ H v d → RD G ρ (upd H p ho) v d := fun r => RD.mono2 (fun _ _ h => sqt_set hp hu h) (fun _ _ h => sqr_set hp hu h) r
  have monos : ∀ {v : List V} {d : List D}, RDs G ρ H v d → RDs G ρ (upd H p ho) v d := fun r => RDs.mono2 (fun _ _ h => sqt_set hp hu h) (fun _ _ h => sqr_set hp hu h) r
  cases o with
  | lst ds => obtain ⟨vs, e, r⟩ := q; exact ⟨vs, by rw [upd_ne na]; exact e, monos r⟩
  | dk kvs => obtain ⟨vs, e, r⟩ := q; exact ⟨vs, by rw [upd_ne na]; exact e, r.mapD mono⟩
  | dt kvs => obtain ⟨vs, e, r⟩ := q; exact ⟨vs, by rw [upd_ne na]; exact e, r.mapD mono⟩
  | ins c fs => exact q.elim
/-- a new object -/
theorem HR.new (x : HR G ρ h H) (hp : H p = none) (r : OR G (ρ ++ [p]) (upd H p ho) p o) : HR G (ρ ++ [p]) (h ++ [o]) (upd H p ho) := by
  have split : ∀ {i : Nat} {a : Addr} {u : Ob}, (ρ ++ [p])[i]? = some a → (h ++ [o])[i]? = some u → (i < h.length ∧ ρ[i]? = some a ∧ h[i]? = some u) ∨ (i = h.length ∧ a = p ∧ u = o) := fun {i a u} e1 e2 => by
    by_cases hi : i < h.length
    · rw [List.getElem?_append_left (by rw [x.len]; exact hi)] at e1
      rw [List.getElem?_append_left hi] at e2
      exact .inl ⟨hi, e1, e2⟩
    · rw [List.getElem?_append_right (by rw [x.len]; omega)] at e1
      rw [List.getElem?_append_right (by omega)] at e2
      have h0 : i - h.length = 0 := by
        have q := (List.getElem?_eq_some_iff.mp e2).1
        simp at q
        omega
      rw [x.len, h0] at e1
      rw [h0] at e2
      exact .inr ⟨by omega, by simpa using e1.symm, by simpa using e2.symm⟩
  refine ⟨by simp [x.len], ?_, fun i a u e1 e2 => ?_⟩
  · rw [List.nodup_append]
    refine ⟨x.nd, by simp, fun b hb c hc => ?_⟩
    rw [List.mem_singleton.mp hc]
    exact fun z => x.notin hp (z ▸ hb)
  · rcases split e1 e2 with ⟨hi, f1, f2⟩ | ⟨hi, rfl, rfl⟩
    · exact (x.ok i a u f1 f2).keep (Le.new1 hp) fun z e => by rw [upd_ne (ne_of_none e hp)]; exact e
    · exact r
/-- an object changed -/
theorem HR.set {u : HO} {o' : Ob} (x : HR G ρ h H) (e1 : ρ[n]? = some a) (e2 : h[n]? = some o) (hp : H a = some u) (hu : openO u = true) (r : OR G ρ (upd H a ho) a o') : HR G ρ (h.set n o') (upd H a ho) := by
  have hn : n < h.length := (List.getElem?_eq_some_iff.mp e2).1
  refine ⟨by simp [x.len], x.nd, fun i b w f1 f2 => ?_⟩
  by_cases hi : n = i
  · subst hi
    rw [List.getElem?_set_self hn] at f2
    rw [f1] at e1
    cases e1
    cases f2
    exact r
  · rw [List.getElem?_set_ne hi] at f2
    have hb : b ≠ a := fun z => by
      subst z
      have l1 := (List.getElem?_eq_some_iff.mp e1).1
      have l2 := (List.getElem?_eq_some_iff.mp f1).1
      have q1 := (List.getElem?_eq_some_iff.mp e1).2
      have q2 := (List.getElem?_eq_some_iff.mp f1).2
      exact hi ((List.getElem_inj x.nd).mp (q1.trans q2.symm))
    exact (x.ok i b w f1 f2).keep (Le.set (List.mem_of_getElem? e1) hp hu) fun z e => by rw [upd_ne hb]; exact e
end

/-! ### what is wanted behind a denotation -/
def Post (G : Gx) (ρ : List Addr) (H : Hp) (Q : VK) (W : XK) : Res D → Prop
  | .bad => False
  | .ok d h => ∀ ρ' v H', Le G ρ H ρ' H' → HR G ρ' h H' → RD G ρ' H' v d → Q v H'
  | .exc c fs h => ∀ ρ' dd H', Le G ρ H ρ' H' → HR G ρ' h H' → XR G ρ' H' dd fs → W (G.cm c) dd H'
where XR (G : Gx) (ρ : List Addr) (H : Hp) (dd : Option Addr) (fs : List (List Nat × D)) : Prop :=
  fs = [] ∨ ∃ a ks, dd = some a ∧ H a = some (.xd ks) ∧ RK (fun x : List Nat => (⟨x.toArray⟩ : Str)) G ρ H ks fs
abbrev XR := @Post.XR
section
variable {G : Gx} {ρ ρ' : List Addr} {H H' : Hp} {Q : VK} {W : XK}
theorem Post.le {r : Res D} (l : Le G ρ H ρ' H') (p : Post G ρ H Q W r) : Post G ρ' H' Q W r := by
  cases r with
  | bad => exact p
  | ok d h => exact fun ρ2 v H2 l2 => p ρ2 v H2 (l.trans l2)
  | exc c fs h => exact fun ρ2 v H2 l2 => p ρ2 v H2 (l.trans l2)
end
/-- the names' values -/
structure ER (G : Gx) (ρ : List Addr) (H : Hp) (σ : L2.St) (e : En) : Prop where
  len : σ.length = e.length
  at_ : ∀ (i : Nat) (d : D), e[i]? = some (some d) → ∃ v, σ[i]? = some (some v) ∧ RD G ρ H v d
section
variable {G : Gx} {ρ ρ' : List Addr} {H H' : Hp} {σ : L2.St} {e : En}
theorem ER.mono (l : Le G ρ H ρ' H') (x : ER G ρ H σ e) : ER G ρ' H' σ e := ⟨x.len, fun i d q => by
  obtain ⟨v, h1, h2⟩ := x.at_ i d q
  exact ⟨v, h1, h2.mono l⟩⟩
theorem ER.set {v : V} {d : D} {i : Nat} (x : ER G ρ H σ e) (r : RD G ρ H v d) : ER G ρ H (σ.set i (some v)) (e.set i (some d)) := ⟨by simp [x.len], fun j w q => by
  by_cases hj : i = j
  · subst hj
    have hi : i < e.length := by
      have := (List.getElem?_eq_some_iff.mp q).1
      simpa using this
    rw [List.getElem?_set_self hi] at q
    cases q
    exact ⟨v, List.getElem?_set_self (by rw [x.len]; exact hi), r⟩
  · rw [List.getElem?_set_ne hj] at q
    obtain ⟨u, h1, h2⟩ := x.at_ j w q
    exact ⟨u, by rw [List.getElem?_set_ne hj]; exact h1, h2⟩⟩
theorem ER.unset {i : Nat} (x : ER G ρ H σ e) : ER G ρ H (σ.set i none) (e.set i none) := ⟨by simp [x.len], fun j w q => by
  by_cases hj : i = j
  · subst hj
    have hi : i < e.length := by
      have := (List.getElem?_eq_some_iff.mp q).1
      simpa using this
    rw [List.getElem?_set_self hi] at q
    cases q
  · rw [List.getElem?_set_ne hj] at q
    obtain ⟨u, h1, h2⟩ := x.at_ j w q
    exact ⟨u, by rw [List.getElem?_set_ne hj]; exact h1, h2⟩⟩
end
/-- an expression's reading by its denotation; W: what is wanted of an exception -/
def tI (G : Gx) (W : WX) (a : Den) : TE := fun σ H Q => ∃ ρ h e, HR G ρ h H ∧ ER G ρ H σ e ∧ Post G ρ H Q (fun c d H' => W c d σ H') (a e h)
def PostB (G : Gx) (ρ : List Addr) (H : Hp) (Q : Bool → Hp → Prop) (W : XK) : Res Bool → Prop
  | .bad => False
  | .ok b h => ∀ ρ' H', Le G ρ H ρ' H' → HR G ρ' h H' → Q b H'
  | .exc c fs h => ∀ ρ' dd H', Le G ρ H ρ' H' → HR G ρ' h H' → XR G ρ' H' dd fs → W (G.cm c) dd H'
def PostA (G : Gx) (ρ : List Addr) (H : Hp) (Q : List V → Hp → Prop) (W : XK) : Res (List D) → Prop
  | .bad => False
  | .ok ds h => ∀ ρ' vs H', Le G ρ H ρ' H' → HR G ρ' h H' → RDs G ρ' H' vs ds → Q vs H'
  | .exc c fs h => ∀ ρ' dd H', Le G ρ H ρ' H' → HR G ρ' h H' → XR G ρ' H' dd fs → W (G.cm c) dd H'
def tB' (G : Gx) (W : WX) (a : TDen) : TT := fun σ H Q => ∃ ρ h e, HR G ρ h H ∧ ER G ρ H σ e ∧ PostB G ρ H Q (fun c d H' => W c d σ H') (a e h)
def tA (G : Gx) (W : WX) (a : ADen) : TA := fun σ H Q => ∃ ρ h e, HR G ρ h H ∧ ER G ρ H σ e ∧ PostA G ρ H Q (fun c d H' => W c d σ H') (a e h)
section
variable {G : Gx} {ρ ρ' : List Addr} {H H' : Hp} {W : XK}
theorem PostB.le {Q : Bool → Hp → Prop} {r : Res Bool} (l : Le G ρ H ρ' H') (p : PostB G ρ H Q W r) : PostB G ρ' H' Q W r := by
  cases r with
  | bad => exact p
  | ok d h => exact fun ρ2 H2 l2 => p ρ2 H2 (l.trans l2)
  | exc c fs h => exact fun ρ2 v H2 l2 => p ρ2 v H2 (l.trans l2)
theorem PostA.le {Q : List V → Hp → Prop} {r : Res (List D)} (l : Le G ρ H ρ' H') (p : PostA G ρ H Q W r) : PostA G ρ' H' Q W r := by
  cases r with
  | bad => exact p
  | ok d h => exact fun ρ2 v H2 l2 => p ρ2 v H2 (l.trans l2)
  | exc c fs h => exact fun ρ2 v H2 l2 => p ρ2 v H2 (l.trans l2)
end
/-- another reading of the same expression -/
theorem pe_imp {X : Cx} {e : Expr} {t t' : TE} (p : PE X e t) (h : ∀ σ H Q, t' σ H Q → t σ H Q) : PE X e t' := ⟨fun pins s σ H Q I q => p.run pins s σ H Q I (h σ H Q q)⟩
theorem pt_imp {X : Cx} {e : Expr} {t t' : TT} (p : PT X e t) (h : ∀ σ H Q, t' σ H Q → t σ H Q) : PT X e t' := ⟨fun pins s σ H Q I q => p.run pins s σ H Q I (h σ H Q q)⟩
theorem pw_imp {X : Cx} {e : Expr} {t t' : TT} (p : PW X e t) (h : ∀ σ H Q, t' σ H Q → t σ H Q) : PW X e t' := ⟨fun wh pins s σ H Q I q => p.run wh pins s σ H Q I (h σ H Q q)⟩
theorem pa_imp {X : Cx} {e : List Expr} {t t' : TA} (p : PA X e t) (h : ∀ σ H Q, t' σ H Q → t σ H Q) : PA X e t' := ⟨fun pos pins s σ H Q I q => p.run pos pins s σ H Q I (h σ H Q q)⟩

/-! ### names, constants -/
section
variable {X : Cx} {G : Gx} {W : WX} {pos : Pos}
theorem ie_var (i : Nat) {x : Str} (hN : X.N[i]? = some x := by rfl) (hv : Vis X.env.scope x := by first | exact Or.inl rfl | exact Or.inr (Or.inl rfl) | exact Or.inr (Or.inr rfl)) (hd : (x == ("__debug__" : Str)) = false := by decide)
    (hcd : (x == ("__classdict__" : Str)) = false := by decide) : PE X (.Name x pos) (tI G W (dVar i)) := by
  refine pe_imp (pe_var hN hv hd hcd) fun σ H Q ⟨ρ, h, e, hr, er, p⟩ => ?_
  unfold dVar at p
  split at p
  · rename_i d q
    obtain ⟨v, h1, h2⟩ := er.at_ i d q
    exact ⟨v, h1, p ρ v H Le.refl hr h2⟩
  · exact p.elim
theorem ie_c {e : Expr} {v : V} {d : D} (p : PE X e (tC v)) (r : ∀ ρ H, RD G ρ H v d) : PE X e (tI G W (dC d)) :=
  pe_imp p fun σ H Q ⟨ρ, h, e, hr, er, p⟩ => p ρ v H Le.refl hr (r ρ H)
theorem ie_int {i : Int} {j : Nat} : PE X (.Constant (.int i) j pos) (tI G W (dC (.int i))) := ie_c pe_int fun _ _ => .int i
theorem ie_bl {b : Bool} {j : Nat} : PE X (.Constant (.bool b) j pos) (tI G W (dC (.bl b))) := ie_c pe_bl fun _ _ => .bl b
theorem ie_non {j : Nat} : PE X (.Constant .none j pos) (tI G W (dC .non)) := ie_c pe_non fun _ _ => .non
theorem ie_str {x : Str} {s : List Nat} {j : Nat} (h : x.cps.toList = s := by decide +kernel) : PE X (.Constant (.str x) j pos) (tI G W (dC (.str s))) := ie_c pe_str fun _ _ => by
  subst h
  exact .str x
/-- a constant of the module -/
theorem ie_glob {x : Str} {v : V} {u : Value} {d : D} (hm : X.mg x = some u) (r : RelV v u) (q : ∀ ρ H, RD G ρ H v d) (hg : Gl X x := by rfl) (hd : (x == ("__debug__" : Str)) = false := by decide) : PE X (.Name x pos) (tI G W (dC d)) :=
  ie_c (pe_glob hg hm r hd) q
end

/-! ### two expressions, one operation -/
/-- an operation on values does what f says -/
def OpS (X : Cx) (G : Gx) (op : Value → Value → Sem Value) (f : D → D → Hh → Res D) : Prop := ∃ r : R2, OpR X op r ∧
  ∀ ρ h H x y dx dy (Q : VK) (W : XK), HR G ρ h H → RD G ρ H x dx → RD G ρ H y dy → Post G ρ H Q W (f dx dy h) → r x y H Q
/-- the two parts run, then the operation -/
theorem tI_bin {G : Gx} {W : WX} {a b : Den} {f : D → D → Hh → Res D} {r : R2}
    (hr : ∀ ρ h H x y dx dy (Q : VK) (W : XK), HR G ρ h H → RD G ρ H x dx → RD G ρ H y dy → Post G ρ H Q W (f dx dy h) → r x y H Q) (σ : L2.St) (H : Hp) (Q : VK) (p : tI G W (dBin f a b) σ H Q) : tOp r (tI G W a) (tI G W b) σ H Q := by
  obtain ⟨ρ, h, e, hh, er, p⟩ := p
  refine ⟨ρ, h, e, hh, er, ?_⟩
  unfold dBin at p
  cases ea : a e h with
  | bad => rw [ea] at p; exact p
  | exc c fs h1 => rw [ea] at p; exact p
  | ok x h1 =>
    rw [ea] at p
    intro ρ1 v H1 l1 hh1 r1
    have p1 := Post.le l1 p
    refine ⟨ρ1, h1, e, hh1, er.mono l1, ?_⟩
    simp only [bind_ok] at p1
    cases eb : b e h1 with
    | bad => rw [eb] at p1; exact p1
    | exc c fs h2 => rw [eb] at p1; exact p1
    | ok y h2 =>
      rw [eb] at p1
      intro ρ2 w H2 l2 hh2 r2
      exact hr ρ2 h2 H2 v w x y Q _ hh2 (r1.mono l2) r2 (Post.le l2 p1)
section
variable {X : Cx} {G : Gx} {W : WX} {pos : Pos} {a b c : Expr} {da db dc : Den} {f g : D → D → Hh → Res D}
theorem ie_op {op : Operator} (o : OpS X G (binaryOp op) f) (ha : PE X a (tI G W da)) (hb : PE X b (tI G W db)) : PE X (.BinOp a op b pos) (tI G W (dBin f da db)) := by
  obtain ⟨r, h1, h2⟩ := o
  exact pe_imp (pe_op h1 ha hb) (tI_bin h2)
theorem ie_cmp {op : CmpOp} (o : OpS X G (compareOp op) f) (ha : PE X a (tI G W da)) (hb : PE X b (tI G W db)) (hm : behindInMarks op b = false := by first | exact nomark _ | rfl | with_unfolding_all rfl) : PE X (.Compare a [op] [b] pos) (tI G W (dBin f da db)) := by
  obtain ⟨r, h1, h2⟩ := o
  exact pe_imp (pe_cmpR h1 ha hb hm) (tI_bin h2)
end
end PI
/-! ## Pi2 -/
set_option Elab.async false
set_option linter.all false
set_option maxRecDepth 100000
set_option maxHeartbeats 1000000
set_option autoImplicit false
/-! PI, part 2: operators, comparisons, truth, built-ins by name. -/
namespace PI
open PySem L2
section
variable {G : Gx} {ρ : List Addr} {H : Hp} {h : Hh} {Q : VK} {W : XK}
theorem rd_str {x : Str} {s : List Nat} (e : x.cps.toList = s) : RD G ρ H (.str x) (.str s) := by
  subst e
  exact .str x
theorem rd_str_inv {v : V} {s : List Nat} (r : RD G ρ H v (.str s)) : ∃ x : Str, v = .str x ∧ x.cps.toList = s := by
  generalize e : D.str s = d at r
  cases r <;> first
    | (cases e; done)
    | exact ⟨_, rfl, (D.str.inj e).symm⟩
theorem len_str (x : Str) : x.length = x.cps.toList.length := by simp [Str.length]
theorem SLe : SL = sizeLine := sizeLine_eq.symm
/-- an answer that leaves the heap -/
theorem post_here {d : D} {v : V} (p : Post G ρ H Q W (.ok d h)) (hr : HR G ρ h H) (r : RD G ρ H v d) : Q v H := p ρ v H Le.refl hr r
/-- an answer that is a new tuple -/
theorem post_tup {ds : List D} {vs : List V} {a : Addr} (p : Post G ρ H Q W (.ok (.tup ds) h)) (hr : HR G ρ h H) (r : RDs G ρ H vs ds) (ha : H a = none) : Q (.ref a) (upd H a (.tup vs)) :=
  p ρ _ _ (Le.new ha) (hr.beside ha) (.tup (SqT.of upd_same) (r.mono (Le.new ha)))
/-- an answer that is a new list -/
theorem post_lst {ds : List D} {vs : List V} {a : Addr} (p : Post G ρ H Q W (.ok (.ref h.length) (h ++ [.lst ds]))) (hr : HR G ρ h H) (r : RDs G ρ H vs ds) (ha : H a = none) : Q (.ref a) (upd H a (.lst vs)) :=
  p (ρ ++ [a]) _ _ (Le.new1 ha) (hr.new ha ⟨vs, upd_same, r.mono (Le.new1 ha)⟩) (.ref (by rw [← hr.len]; simp))
/-- an answer behind a change of the list n -/
theorem post_set {ds es : List D} {vs ws : List V} {a : Addr} {n : Nat} {d : D} {v : V} (p : Post G ρ H Q W (.ok d (h.set n (.lst es)))) (hr : HR G ρ h H) (e1 : ρ[n]? = some a) (e2 : h[n]? = some (.lst ds)) (ha : H a = some (.lst vs)) (r : RDs G ρ H ws es) (rd : RD G ρ H v d) : Q v (upd H a (.lst ws)) :=
  p ρ _ _ (Le.set (List.mem_of_getElem? e1) ha rfl) (hr.set e1 e2 ha rfl ⟨ws, upd_same, r.mono (Le.set (List.mem_of_getElem? e1) ha rfl)⟩) (rd.mono (Le.set (List.mem_of_getElem? e1) ha rfl))
theorem lst_of {n : Nat} {a : Addr} {ds : List D} (hr : HR G ρ h H) (e1 : ρ[n]? = some a) (e : h[n]? = some (.lst ds)) : ∃ vs, H a = some (.lst vs) ∧ RDs G ρ H vs ds := hr.ok n a _ e1 e
theorem sql_of {n : Nat} {a : Addr} {ds : List D} (hr : HR G ρ h H) (e1 : ρ[n]? = some a) (e : lstAt h n = some ds) : ∃ vs, H a = some (.lst vs) ∧ RDs G ρ H vs ds := by
  unfold lstAt at e
  split at e
  · rename_i xs q
    cases e
    exact hr.ok n a _ e1 q
  · cases e
/-- a list's items -/
theorem list_ok {v : V} {d : D} {ds : List D} (hr : HR G ρ h H) (r : RD G ρ H v d) (e : listOf h d = some ds) : ∃ a vs, v = .ref a ∧ SqL G.K H a vs ∧ RDs G ρ H vs ds := by
  cases r with
  | ref q =>
    obtain ⟨vs, h1, h2⟩ := sql_of hr q e
    exact ⟨_, vs, rfl, SqL.of h1, h2⟩
  | rl hs rs =>
    cases e
    exact ⟨_, _, rfl, hs.sq, rs⟩
  | _ => cases e
end
theorem mulOk_ok {i j : Int} (h : mulOk i j) : IntMulOk i j := by
  have b : ∀ x : Int, Builtin.Int.intBits x ≤ x.natAbs.log2 + 1 := fun x => by
    unfold Builtin.Int.intBits
    split <;> omega
  have h1 := b i
  have h2 := b j
  have h3 : i.natAbs.log2 + j.natAbs.log2 < 100000000 := h
  have e : bitsLine = 134217728 := by decide
  unfold IntMulOk
  intro z
  rw [Bool.and_eq_true] at z
  have z2 := z.2
  unfold Builtin.Int.intTooBig at z2
  have z3 := of_decide_eq_true z2
  rw [e] at z3
  omega
section
variable {X : Cx} {G : Gx}
theorem op_mulP : OpR X (binaryOp .Mult) (rI mulOk fun i j => .int (i * j)) := opI fun _ _ _ _ _ _ _ hc q => PyProof.Rows.mul_int q (mulOk_ok hc)
theorem op_divP : OpR X (binaryOp .FloorDiv) (rI (fun _ j => divOk j) fun i j => .int (i.fdiv j)) := opI fun i j _ _ _ _ _ hc q =>
  PyProof.Rows.floordiv_int hc.1 q (.inl (PyProof.noPylong_of_log2 (Nat.lt_of_lt_of_le hc.2 (by decide))))
theorem os_sub : OpS X G (binaryOp .Sub) oSub := ⟨_, op_sub, fun ρ h H x y dx dy Q W hr rx ry p => by
  cases rx <;> cases ry <;> first
    | exact False.elim p
    | exact ⟨_, _, rfl, rfl, post_here p hr (.int _)⟩⟩
theorem os_div : OpS X G (binaryOp .FloorDiv) oDiv := ⟨_, op_divP, fun ρ h H x y dx dy Q W hr rx ry p => by
  cases rx <;> cases ry <;> first
    | exact False.elim p
    | (rename_i i j
       simp only [oDiv] at p
       by_cases c : divOk j
       · rw [if_pos c] at p
         exact ⟨_, _, rfl, rfl, c, post_here p hr (.int _)⟩
       · rw [if_neg c] at p
         exact p.elim)⟩
theorem os_mod : OpS X G (binaryOp .Mod) oMod := ⟨_, op_modN, fun ρ h H x y dx dy Q W hr rx ry p => by
  cases rx <;> cases ry <;> first
    | exact False.elim p
    | (rename_i i j
       simp only [oMod] at p
       by_cases c : j ≠ 0
       · rw [if_pos c] at p
         exact ⟨_, _, rfl, rfl, c, post_here p hr (.int _)⟩
       · rw [if_neg c] at p
         exact p.elim)⟩
theorem os_pow : OpS X G (binaryOp .Pow) oPow := ⟨_, op_pow, fun ρ h H x y dx dy Q W hr rx ry p => by
  cases rx <;> cases ry <;> first
    | exact False.elim p
    | (rename_i i j
       simp only [oPow] at p
       by_cases c : 0 ≤ j ∧ j ≤ 1000000 ∧ i.natAbs < 2 ^ 64
       · rw [if_pos c] at p
         exact ⟨_, _, rfl, rfl, c, post_here p hr (.int _)⟩
       · rw [if_neg c] at p
         exact p.elim)⟩
/-- +: ints, texts, tuples, lists -/
theorem os_add (hK : G.K = X.K) : OpS X G (binaryOp .Add) oAdd := ⟨_, op_add.or (op_add_str.or (op_catA.or op_cat)), fun ρ h H x y dx dy Q W hr rx ry p => by
  cases rx <;> cases ry <;> first
    | exact False.elim p
    | exact .inl ⟨_, _, rfl, rfl, post_here p hr (.int _)⟩
    | skip
  · rename_i a b
    refine .inr (.inl ⟨a, b, rfl, rfl, ?_⟩)
    simp only [oAdd] at p
    split at p
    · rename_i c
      rw [SLe] at c
      refine ⟨by rw [len_str, len_str]; exact c, post_here p hr (rd_str (TL.tl_append a b))⟩
    · exact p.elim
  · rename_i a vs ds ha ra b ws es hb rb
    refine .inr (.inr (.inl ⟨a, b, vs, ws, rfl, rfl, hK ▸ ha, hK ▸ hb, ?_⟩))
    simp only [oAdd] at p
    split at p
    · rename_i c
      rw [SLe, ← ra.length, ← rb.length] at c
      refine ⟨c, fun e => ?_, fun _ e => ?_, fun _ _ t ht => post_tup p hr (ra.append rb) ht⟩
      · subst e
        cases ra
        exact post_here p hr (.tup hb rb)
      · subst e
        cases rb
        rw [List.append_nil] at p
        exact post_here p hr (.tup ha ra)
    · exact p.elim
  · rename_i a m ea b n eb
    refine .inr (.inr (.inr ?_))
    simp only [oAdd] at p
    split at p
    · rename_i xs ys q1 q2
      obtain ⟨vs, h1, r1⟩ := lst_of hr ea q1
      obtain ⟨ws, h2, r2⟩ := lst_of hr eb q2
      split at p
      · rename_i c
        rw [SLe, ← r1.length, ← r2.length] at c
        exact ⟨a, b, vs, ws, rfl, rfl, h1, h2, c, fun t ht => post_lst p hr (r1.append r2) ht⟩
      · exact p.elim
    · exact p.elim⟩
theorem rds_rep {ρ : List Addr} {H : Hp} {vs : List V} {ds : List D} (r : RDs G ρ H vs ds) : ∀ n : Nat, RDs G ρ H (List.replicate n vs).flatten (List.replicate n ds).flatten
  | 0 => .nil
  | n + 1 => by
    rw [List.replicate_succ, List.replicate_succ, List.flatten_cons, List.flatten_cons]
    exact r.append (rds_rep r n)
/-- *: ints; a list and an int -/
theorem os_mul : OpS X G (binaryOp .Mult) oMul := ⟨_, op_mulP.or op_rep, fun ρ h H x y dx dy Q W hr rx ry p => by
  cases rx <;> cases ry <;> first
    | exact False.elim p
    | skip
  · rename_i i j
    simp only [oMul] at p
    by_cases c : mulOk i j
    · rw [if_pos c] at p
      exact .inl ⟨_, _, rfl, rfl, c, post_here p hr (.int _)⟩
    · rw [if_neg c] at p
      exact p.elim
  · rename_i a n ea k
    simp only [oMul] at p
    split at p
    · rename_i xs q1
      obtain ⟨vs, h1, r1⟩ := lst_of hr ea q1
      split at p
      · rename_i c
        rw [SLe, ← r1.length] at c
        exact .inr ⟨a, k, vs, rfl, rfl, h1, c.1, c.2.1, c.2.2, fun t ht => post_lst p hr (rds_rep r1 _) ht⟩
      · exact p.elim
    · exact p.elim⟩
end
/-! ### a one-place operation -/
def UnS (X : Cx) (G : Gx) (op : Value → Sem Value) (f : D → Hh → Res D) : Prop := ∃ r : V → Hp → VK → Prop, UnR X op r ∧
  ∀ ρ h H x dx (Q : VK) (W : XK), HR G ρ h H → RD G ρ H x dx → Post G ρ H Q W (f dx h) → r x H Q
theorem tI_un {G : Gx} {W : WX} {a : Den} {f : D → Hh → Res D} {r : V → Hp → VK → Prop}
    (hr : ∀ ρ h H x dx (Q : VK) (W : XK), HR G ρ h H → RD G ρ H x dx → Post G ρ H Q W (f dx h) → r x H Q) (σ : L2.St) (H : Hp) (Q : VK) (p : tI G W (dUn f a) σ H Q) : tI G W a σ H fun x H1 => r x H1 Q := by
  obtain ⟨ρ, h, e, hh, er, p⟩ := p
  refine ⟨ρ, h, e, hh, er, ?_⟩
  unfold dUn at p
  cases ea : a e h with
  | bad => rw [ea] at p; exact p
  | exc c fs h1 => rw [ea] at p; exact p
  | ok x h1 =>
    rw [ea] at p
    intro ρ1 v H1 l1 hh1 r1
    exact hr ρ1 h1 H1 v x Q _ hh1 r1 (Post.le l1 p)
section
variable {X : Cx} {G : Gx} {W : WX} {pos : Pos} {a b : Expr} {da db : Den}
theorem ie_neg (ha : PE X a (tI G W da)) : PE X (.UnaryOp .USub a pos) (tI G W (dUn oNeg da)) :=
  pe_imp (pe_un un_neg ha) (tI_un fun ρ h H x dx Q W hr rx p => by
    cases rx <;> first
      | exact False.elim p
      | exact ⟨_, rfl, post_here p hr (.int _)⟩)
end

/-! ### ==: flat data as the library's data -/
mutual
def toP : D → PyData
  | .non => .none
  | .bl b => .bool b
  | .int i => .int i
  | .str s => .str ⟨s.toArray⟩
  | .tup xs => .tuple (toPL xs)
  | .ref _ => .none
  | .cv _ => .none
  | .rl _ => .none
def toPL : List D → List PyData
  | [] => []
  | x :: xs => toP x :: toPL xs
end
mutual
theorem toP_lay : ∀ d : D, (toP d).canLay0 = true ∨ d.flat = false
  | .non => .inl rfl
  | .bl _ => .inl rfl
  | .int _ => .inl rfl
  | .str s => by
    cases e : s.all (· < 0x110000) with
    | false => exact .inr e
    | true =>
      refine .inl ?_
      show PyData.strOk ⟨s.toArray⟩ = true
      unfold PyData.strOk
      simpa using e
  | .tup xs => toPL_lay xs
  | .ref _ => .inr rfl
  | .cv _ => .inr rfl
  | .rl _ => .inr rfl
theorem toPL_lay : ∀ ds : List D, PyData.canLayAll0 (toPL ds) = true ∨ D.flatL ds = false
  | [] => .inl rfl
  | x :: xs => by
    have h1 := toP_lay x
    have h2 := toPL_lay xs
    simp only [toPL, PyData.canLayAll0, D.flatL, Bool.and_eq_true, Bool.and_eq_false_iff]
    rcases h1 with h1 | h1
    · rcases h2 with h2 | h2
      · exact .inl ⟨h1, h2⟩
      · exact .inr (.inr h2)
    · exact .inr (.inl h1)
end
mutual
theorem toP_depth : ∀ d : D, (toP d).depth = d.deep
  | .non => rfl
  | .bl _ => rfl
  | .int _ => rfl
  | .str _ => rfl
  | .tup xs => by
    show PyData.depthAll (toPL xs) + 1 = D.deepL xs + 1
    rw [toPL_depth xs]
  | .ref _ => rfl
  | .cv _ => rfl
  | .rl _ => rfl
theorem toPL_depth : ∀ ds : List D, PyData.depthAll (toPL ds) = D.deepL ds
  | [] => rfl
  | x :: xs => by
    show max (PyData.depth (toP x)) (PyData.depthAll (toPL xs)) = max (D.deep x) (D.deepL xs)
    rw [toP_depth x, toPL_depth xs]
end
mutual
theorem toP_eqv : ∀ a b : D, a.flat = true → b.flat = true → PyData.eqv (toP a) (toP b) = D.eqv a b
  | .non, b, _, _ => by cases b <;> simp_all [toP, PyData.eqv, D.eqv, D.flat]
  | .bl _, b, _, _ => by cases b <;> simp_all [toP, PyData.eqv, D.eqv, D.flat]
  | .int _, b, _, _ => by cases b <;> simp_all [toP, PyData.eqv, D.eqv, D.flat]
  | .str s, b, _, _ => by
    cases b with
    | str t =>
      simp only [toP, PyData.eqv, D.eqv]
      rw [Bool.eq_iff_iff]
      simp
    | _ => simp_all [toP, PyData.eqv, D.eqv, D.flat]
  | .tup xs, b, ha, hb => by
    cases b with
    | tup ys =>
      simp only [toP, PyData.eqv, D.eqv]
      exact toPL_eqv xs ys (by simpa [D.flat] using ha) (by simpa [D.flat] using hb)
    | _ => simp_all [toP, PyData.eqv, D.eqv, D.flat]
  | .ref _, _, ha, _ => by simp [D.flat] at ha
  | .cv _, _, ha, _ => by simp [D.flat] at ha
  | .rl _, _, ha, _ => by simp [D.flat] at ha
theorem toPL_eqv : ∀ a b : List D, D.flatL a = true → D.flatL b = true → PyData.eqvAll (toPL a) (toPL b) = D.eqvL a b
  | [], [], _, _ => by simp [toPL, PyData.eqvAll, D.eqvL]
  | [], _ :: _, _, _ => by simp [toPL, PyData.eqvAll, D.eqvL]
  | _ :: _, [], _, _ => by simp [toPL, PyData.eqvAll, D.eqvL]
  | x :: xs, y :: ys, ha, hb => by
    simp only [D.flatL, Bool.and_eq_true] at ha hb
    simp only [toPL, PyData.eqvAll, D.eqvL]
    rw [toP_eqv x y ha.1 hb.1, toPL_eqv xs ys ha.2 hb.2]
end
section
variable {G : Gx} {ρ : List Addr} {H : Hp} {h : Hh}
mutual
theorem rd_dp : ∀ {v : V} {d : D}, RD G ρ H v d → d.flat = true → Dp G.K H v (toP d)
  | _, _, .non, _ => .non
  | _, _, .bl b, _ => .bl b
  | _, _, .int i, _ => .int i
  | _, _, .str x, _ => .str x
  | _, _, .tup hs r, hf => .tup hs (rds_dp r (by simpa [D.flat] using hf))
  | _, _, .ref _, hf => by simp [D.flat] at hf
  | _, _, .cv _, hf => by simp [D.flat] at hf
  | _, _, .rl _ _, hf => by simp [D.flat] at hf
theorem rds_dp : ∀ {vs : List V} {ds : List D}, RDs G ρ H vs ds → D.flatL ds = true → DpAll G.K H vs (toPL ds)
  | _, _, .nil, _ => .nil
  | _, _, .cons a r, hf => by
    simp only [D.flatL, Bool.and_eq_true] at hf
    exact .cons (rd_dp a hf.1) (rds_dp r hf.2)
end
theorem shaped_fit {d : D} (f : d.fit = true) : SeqAt.shaped (toP d) = true := by
  unfold D.fit at f
  rw [Bool.and_eq_true, decide_eq_true_eq] at f
  unfold SeqAt.shaped
  rw [Bool.and_eq_true, decide_eq_true_eq, toP_depth]
  refine ⟨?_, by omega⟩
  rcases toP_lay d with z | z
  · exact z
  · rw [z] at f
    cases f.1
theorem shaped_fitL {ds : List D} (f : D.fitL ds = true) : SeqAt.shaped (.list (toPL ds)) = true := by
  unfold D.fitL at f
  rw [Bool.and_eq_true, decide_eq_true_eq] at f
  unfold SeqAt.shaped
  rw [Bool.and_eq_true, decide_eq_true_eq]
  refine ⟨?_, ?_⟩
  · show PyData.canLayAll0 (toPL ds) = true
    rcases toPL_lay ds with z | z
    · exact z
    · rw [z] at f
      cases f.1
  · show PyData.depthAll (toPL ds) + 1 ≤ 64
    rw [toPL_depth]
    omega
theorem fit_flat {d : D} (f : d.fit = true) : d.flat = true := by
  unfold D.fit at f
  rw [Bool.and_eq_true] at f
  exact f.1
theorem fit_flatL {ds : List D} (f : D.fitL ds = true) : D.flatL ds = true := by
  unfold D.fitL at f
  rw [Bool.and_eq_true] at f
  exact f.1
/-- the scalars -/
theorem scal_eq {x y : V} {a b : D} (rx : RD G ρ H x a) (ry : RD G ρ H y b) (s : D.scal2 a b = true) : scal x y = true ∧ decide (x = y) = D.eqv a b := by
  cases rx <;> cases ry <;> first
    | (simp [D.scal2, D.scal] at s; done)
    | (refine ⟨rfl, ?_⟩; rw [dec_int]; simp only [D.eqv]; done)
    | (refine ⟨rfl, ?_⟩; rw [dec_bl]; simp only [D.eqv]; done)
    | (rename_i x y; refine ⟨rfl, ?_⟩; rw [dec_str]; simp only [D.eqv]; rw [Bool.eq_iff_iff]; simp only [beq_iff_eq]; exact ⟨fun e => by rw [e], fun e => TL.ext_tl e⟩)
    | (refine ⟨rfl, ?_⟩; simp [D.eqv]; done)
/-- == of parts -/
theorem eqE_ok {x y : V} {a b : D} {c : Bool} (hr : HR G ρ h H) (rx : RD G ρ H x a) (ry : RD G ρ H y b) (e : eqE h a b = some c) :
    ∃ d f, Dp G.K H x d ∧ Dp G.K H y f ∧ (d.canLay0 = true ∧ d.depth ≤ 62) ∧ (f.canLay0 = true ∧ f.depth ≤ 62) ∧ PyData.eqv d f = c := by
  have fitS : ∀ {d : D}, d.fit = true → (toP d).canLay0 = true ∧ (toP d).depth ≤ 62 := fun {d} f => by
    unfold D.fit at f
    rw [Bool.and_eq_true, decide_eq_true_eq] at f
    refine ⟨?_, by rw [toP_depth]; omega⟩
    rcases toP_lay d with z | z
    · exact z
    · rw [z] at f
      cases f.1
  have fitSL : ∀ {ds : List D}, D.fitL ds = true → (PyData.list (toPL ds)).canLay0 = true ∧ (PyData.list (toPL ds)).depth ≤ 62 := fun {ds} f => by
    unfold D.fitL at f
    rw [Bool.and_eq_true, decide_eq_true_eq] at f
    refine ⟨?_, ?_⟩
    · show PyData.canLayAll0 (toPL ds) = true
      rcases toPL_lay ds with z | z
      · exact z
      · rw [z] at f
        cases f.1
    · show PyData.depthAll (toPL ds) + 1 ≤ 62
      rw [toPL_depth]
      omega
  unfold eqE at e
  split at e
  · rename_i xs ys e1 e2
    split at e
    · rename_i f
      rw [Bool.and_eq_true] at f
      obtain ⟨_, vs, rfl, h1, r1⟩ := list_ok hr rx e1
      obtain ⟨_, ws, rfl, h2, r2⟩ := list_ok hr ry e2
      refine ⟨_, _, .lst h1 (rds_dp r1 (fit_flatL f.1)), .lst h2 (rds_dp r2 (fit_flatL f.2)), fitSL f.1, fitSL f.2, ?_⟩
      show PyData.eqvAll (toPL xs) (toPL ys) = c
      rw [toPL_eqv _ _ (fit_flatL f.1) (fit_flatL f.2)]
      exact Option.some.inj e
    · cases e
  · split at e
    · rename_i f
      rw [Bool.and_eq_true] at f
      refine ⟨_, _, rd_dp rx (fit_flat f.1), rd_dp ry (fit_flat f.2), fitS f.1, fitS f.2, ?_⟩
      rw [toP_eqv _ _ (fit_flat f.1) (fit_flat f.2)]
      exact Option.some.inj e
    · cases e
  · cases e
theorem eqEL_ok : ∀ {as bs : List D} {xs ys : List V} {c : Bool}, HR G ρ h H → RDs G ρ H xs as → RDs G ρ H ys bs → eqEL h as bs = some c →
    ∃ ds fs, DpAll G.K H xs ds ∧ DpAll G.K H ys fs ∧ (PyData.canLayAll0 ds = true ∧ PyData.depthAll ds ≤ 62) ∧ (PyData.canLayAll0 fs = true ∧ PyData.depthAll fs ≤ 62) ∧ PyData.eqvAll ds fs = c
  | [], [], _, _, c, hr, .nil, .nil, e => ⟨[], [], .nil, .nil, ⟨rfl, Nat.zero_le _⟩, ⟨rfl, Nat.zero_le _⟩, by simpa [eqEL, PyData.eqvAll] using e⟩
  | [], _ :: _, _, _, c, hr, _, _, e => by simp [eqEL] at e
  | _ :: _, [], _, _, c, hr, _, _, e => by simp [eqEL] at e
  | a :: as, b :: bs, _, _, c, hr, .cons ra ras, .cons rb rbs, e => by
    rw [eqEL] at e
    cases e1 : eqE h a b with
    | none => rw [e1] at e; cases e
    | some c1 =>
      cases e2 : eqEL h as bs with
      | none => rw [e1, e2] at e; cases e
      | some c2 =>
        rw [e1, e2] at e
        cases e
        obtain ⟨d, f, g1, g2, g3, g4, g5⟩ := eqE_ok hr ra rb e1
        obtain ⟨ds, fs, k1, k2, k3, k4, k5⟩ := eqEL_ok hr ras rbs e2
        refine ⟨d :: ds, f :: fs, .cons g1 k1, .cons g2 k2, ⟨?_, ?_⟩, ⟨?_, ?_⟩, ?_⟩
        · show (d.canLay0 && PyData.canLayAll0 ds) = true
          rw [g3.1, k3.1]
          rfl
        · show max d.depth (PyData.depthAll ds) ≤ 62
          have := g3.2
          have := k3.2
          omega
        · show (f.canLay0 && PyData.canLayAll0 fs) = true
          rw [g4.1, k4.1]
          rfl
        · show max f.depth (PyData.depthAll fs) ≤ 62
          have := g4.2
          have := k4.2
          omega
        · rw [PyData.eqvAll, g5, k5]
/-- == of two that eqR answers -/
theorem eqR_ok {x y : V} {a b : D} {c : Bool} (hr : HR G ρ h H) (rx : RD G ρ H x a) (ry : RD G ρ H y b) (e : eqR h a b = some c) :
    (scal x y = true ∧ decide (x = y) = c) ∨ ∃ d f, Dp G.K H x d ∧ Dp G.K H y f ∧ SeqAt.shaped d = true ∧ SeqAt.shaped f = true ∧ PyData.eqv d f = c := by
  unfold eqR at e
  split at e
  · rename_i s
    obtain ⟨h1, h2⟩ := scal_eq rx ry s
    rw [h2]
    exact .inl ⟨h1, Option.some.inj e⟩
  · refine .inr ?_
    split at e
    · rename_i xs ys e1 e2
      split at e
      · rename_i f
        rw [Bool.and_eq_true] at f
        obtain ⟨_, vs, rfl, h1, r1⟩ := list_ok hr rx e1
        obtain ⟨_, ws, rfl, h2, r2⟩ := list_ok hr ry e2
        refine ⟨_, _, .lst h1 (rds_dp r1 (fit_flatL f.1)), .lst h2 (rds_dp r2 (fit_flatL f.2)), shaped_fitL f.1, shaped_fitL f.2, ?_⟩
        show PyData.eqvAll (toPL xs) (toPL ys) = c
        rw [toPL_eqv _ _ (fit_flatL f.1) (fit_flatL f.2)]
        exact Option.some.inj e
      · cases e
    · rename_i xs e1 _
      split at e
      · rename_i f
        rw [Bool.and_eq_true] at f
        obtain ⟨_, vs, rfl, h1, r1⟩ := list_ok hr rx e1
        refine ⟨_, _, .lst h1 (rds_dp r1 (fit_flatL f.1)), rd_dp ry (fit_flat f.2), shaped_fitL f.1, shaped_fit f.2, ?_⟩
        have z := Option.some.inj e
        subst z
        cases b <;> first
          | rfl
          | (simp [toP, PyData.eqv]; done)
          | (simp [D.fit, D.flat] at f; done)
      · cases e
    · rename_i ys _ e2
      split at e
      · rename_i f
        rw [Bool.and_eq_true] at f
        obtain ⟨_, ws, rfl, h2, r2⟩ := list_ok hr ry e2
        refine ⟨_, _, rd_dp rx (fit_flat f.1), .lst h2 (rds_dp r2 (fit_flatL f.2)), shaped_fit f.1, shaped_fitL f.2, ?_⟩
        have z := Option.some.inj e
        subst z
        cases a <;> first
          | rfl
          | (simp [toP, PyData.eqv]; done)
          | (simp [D.fit, D.flat] at f; done)
      · cases e
    · split at e
      · rename_i f
        rw [Bool.and_eq_true] at f
        refine ⟨_, _, rd_dp rx (fit_flat f.1), rd_dp ry (fit_flat f.2), shaped_fit f.1, shaped_fit f.2, ?_⟩
        rw [toP_eqv _ _ (fit_flat f.1) (fit_flat f.2)]
        exact Option.some.inj e
      · split at e
        · rename_i xs ys _ _ _
          cases rx with
          | tup hx rx =>
            cases ry with
            | tup hy ry =>
              obtain ⟨ds, fs, g1, g2, g3, g4, g5⟩ := eqEL_ok hr rx ry e
              have sh : ∀ {ds : List PyData}, (PyData.canLayAll0 ds = true ∧ PyData.depthAll ds ≤ 62) → SeqAt.shaped (.tuple ds) = true := fun {ds} g => by
                unfold SeqAt.shaped
                rw [Bool.and_eq_true, decide_eq_true_eq]
                exact ⟨g.1, show PyData.depthAll ds + 1 ≤ 64 by have := g.2; omega⟩
              exact ⟨_, _, .tup hx g1, .tup hy g2, sh g3, sh g4, g5⟩
        · cases e
end
section
variable {X : Cx} {G : Gx}
theorem os_eq (hK : G.K = X.K) (hu : X.A.units + 64 < cLine) : OpS X G (compareOp .Eq) cEq := ⟨_, op_eq.or (op_eqD hu), fun ρ h H x y dx dy Q W hr rx ry p => by
  unfold cEq at p
  split at p
  · rename_i b e
    rcases eqR_ok hr rx ry e with ⟨h1, h2⟩ | ⟨d, f, h1, h2, h3, h4, h5⟩
    · refine .inl ⟨h1, ?_⟩
      rw [h2]
      exact post_here p hr (.bl b)
    · refine .inr ⟨d, f, hK ▸ h1, hK ▸ h2, h3, h4, ?_⟩
      rw [h5]
      exact post_here p hr (.bl b)
  · exact p.elim⟩
theorem os_ne (hK : G.K = X.K) (hu : X.A.units + 64 < cLine) : OpS X G (compareOp .NotEq) cNe := ⟨_, op_ne.or (op_neD hu), fun ρ h H x y dx dy Q W hr rx ry p => by
  unfold cNe at p
  split at p
  · rename_i b e
    rcases eqR_ok hr rx ry e with ⟨h1, h2⟩ | ⟨d, f, h1, h2, h3, h4, h5⟩
    · refine .inl ⟨h1, ?_⟩
      rw [h2]
      exact post_here p hr (.bl _)
    · refine .inr ⟨d, f, hK ▸ h1, hK ▸ h2, h3, h4, ?_⟩
      rw [h5]
      exact post_here p hr (.bl _)
  · exact p.elim⟩
theorem os_lt : OpS X G (compareOp .Lt) cLt := ⟨_, op_lt.or op_lt_str, fun ρ h H x y dx dy Q W hr rx ry p => by
  cases rx <;> cases ry <;> first
    | exact False.elim p
    | exact .inl ⟨_, _, rfl, rfl, post_here p hr (.bl _)⟩
    | exact .inr ⟨_, _, rfl, rfl, post_here p hr (.bl _)⟩⟩
theorem os_le : OpS X G (compareOp .LtE) cLe := ⟨_, op_le.or op_le_str, fun ρ h H x y dx dy Q W hr rx ry p => by
  cases rx <;> cases ry <;> first
    | exact False.elim p
    | exact .inl ⟨_, _, rfl, rfl, post_here p hr (.bl _)⟩
    | exact .inr ⟨_, _, rfl, rfl, post_here p hr (.bl _)⟩⟩
theorem os_gt : OpS X G (compareOp .Gt) cGt := ⟨_, op_gt.or op_gt_str, fun ρ h H x y dx dy Q W hr rx ry p => by
  cases rx <;> cases ry <;> first
    | exact False.elim p
    | exact .inl ⟨_, _, rfl, rfl, post_here p hr (.bl _)⟩
    | exact .inr ⟨_, _, rfl, rfl, post_here p hr (.bl _)⟩⟩
theorem os_ge : OpS X G (compareOp .GtE) cGe := ⟨_, op_ge.or op_ge_str, fun ρ h H x y dx dy Q W hr rx ry p => by
  cases rx <;> cases ry <;> first
    | exact False.elim p
    | exact .inl ⟨_, _, rfl, rfl, post_here p hr (.bl _)⟩
    | exact .inr ⟨_, _, rfl, rfl, post_here p hr (.bl _)⟩⟩
/-! ### in -/
theorem scal_flat {ρ : List Addr} {H : Hp} {x : V} {d : D} (r : RD G ρ H x d) (s : d.scal = true) : flatV x = true := by
  cases r <;> first
    | rfl
    | (simp [D.scal] at s; done)
theorem scal_flats {ρ : List Addr} {H : Hp} : ∀ {xs : List V} {ds : List D}, RDs G ρ H xs ds → ds.all D.scal = true → xs.all flatV = true
  | _, _, .nil, _ => rfl
  | _, _, .cons a r, s => by
    simp only [List.all_cons, Bool.and_eq_true] at s ⊢
    exact ⟨scal_flat a s.1, scal_flats r s.2⟩
theorem eqV_eqv {ρ : List Addr} {H : Hp} {x y : V} {a b : D} (rx : RD G ρ H x a) (ry : RD G ρ H y b) (s : a.scal = true) (t : b.scal = true) : eqV x y = D.eqv a b := by
  cases rx <;> cases ry <;> first
    | (simp [D.scal] at s; done)
    | (simp [D.scal] at t; done)
    | (simp [eqV, D.eqv]; done)
    | skip
  rename_i x y
  simp only [eqV, D.eqv]
  rw [Bool.eq_iff_iff]
  simp only [beq_iff_eq]
  exact ⟨fun e => by rw [e], fun e => TL.ext_tl e⟩
theorem inV_any {ρ : List Addr} {H : Hp} {x : V} {a : D} (rx : RD G ρ H x a) (s : a.scal = true) : ∀ {xs : List V} {ds : List D}, RDs G ρ H xs ds → ds.all D.scal = true → inV x xs = anyEq a ds
  | _, _, .nil, _ => rfl
  | _, _, .cons b r, t => by
    simp only [List.all_cons, Bool.and_eq_true] at t
    have ih := inV_any rx s r t.2
    unfold inV at ih ⊢
    rw [List.any_cons, ih, eqV_eqv b rx t.1 s]
    rfl
theorem inItems_ok {ρ : List Addr} {H : Hp} {x : V} {a : D} {xs : List V} {ds : List D} {c : Bool} (rx : RD G ρ H x a) (r : RDs G ρ H xs ds) (e : inItems a ds = some c) : flatV x = true ∧ xs.all flatV = true ∧ inV x xs = c := by
  unfold inItems at e
  split at e
  · rename_i f
    rw [Bool.and_eq_true] at f
    exact ⟨scal_flat rx f.1, scal_flats r f.2, by rw [inV_any rx f.1 r f.2]; exact Option.some.inj e⟩
  · cases e
theorem toPL_any {x : D} (hx : x.flat = true) : ∀ {xs : List D}, D.flatL xs = true → ((toPL xs).any fun z => PyData.eqv z (toP x)) = anyEq x xs
  | [], _ => rfl
  | y :: ys, h => by
    rw [D.flatL, Bool.and_eq_true] at h
    rw [toPL, List.any_cons, toP_eqv _ _ h.1 hx, toPL_any hx h.2]
    rfl
theorem inR_ok {ρ : List Addr} {H : Hp} {h : Hh} {x y : V} {a b : D} {c : Bool} (hr : HR G ρ h H) (rx : RD G ρ H x a) (ry : RD G ρ H y b) (e : inR h a b = some c) :
    ((∃ p xs, y = .ref p ∧ (SqL G.K H p xs ∨ SqT G.K H p xs) ∧ flatV x = true ∧ xs.all flatV = true ∧ inV x xs = c) ∨ ∃ (k : Nat) (z : Str), x = .str ⟨#[k]⟩ ∧ y = .str z ∧ decide (k ∈ z.cps.toList) = c) ∨
      ∃ d ds, Dp G.K H x d ∧ Dp G.K H y (.list ds) ∧ SeqAt.shaped d = true ∧ SeqAt.shaped (.list ds) = true ∧ (ds.any fun z => PyData.eqv z d) = c := by
  unfold inR at e
  split at e
  · cases ry with
    | tup hs r =>
      obtain ⟨h1, h2, h3⟩ := inItems_ok rx r e
      exact .inl (.inl ⟨_, _, rfl, .inr hs, h1, h2, h3⟩)
  · obtain ⟨z, rfl, rfl⟩ := rd_str_inv ry
    split at e
    · rename_i k
      obtain ⟨w, rfl, hw⟩ := rd_str_inv rx
      refine .inl (.inr ⟨k, z, ?_, rfl, Option.some.inj e⟩)
      congr 1
      exact TL.ext_tl (show w.cps.toList = [k] from hw)
    · cases e
  · split at e
    · rename_i ys q
      obtain ⟨_, vs, rfl, g1, g2⟩ := list_ok hr ry q
      split at e
      · rename_i b' e'
        cases e
        obtain ⟨h1, h2, h3⟩ := inItems_ok rx g2 e'
        exact .inl (.inl ⟨_, _, rfl, .inl g1, h1, h2, h3⟩)
      · unfold inDeep at e
        split at e
        · rename_i f
          rw [Bool.and_eq_true] at f
          refine .inr ⟨_, _, rd_dp rx (fit_flat f.1), .lst g1 (rds_dp g2 (fit_flatL f.2)), shaped_fit f.1, shaped_fitL f.2, ?_⟩
          rw [toPL_any (fit_flat f.1) (fit_flatL f.2)]
          exact Option.some.inj e
        · cases e
    · cases e
theorem os_in (hK : G.K = X.K) (hu : X.A.units + 65 < cLine) : OpS X G (compareOp .In) cIn := ⟨_, op_in_seq.or (op_in_sign.or (op_inD hu)), fun ρ h H x y dx dy Q W hr rx ry p => by
  unfold cIn at p
  split at p
  · rename_i b e
    rcases inR_ok hr rx ry e with (⟨a, xs, h1, h2, h3, h4, h5⟩ | ⟨k, z, h1, h2, h3⟩) | ⟨d, ds, h1, h2, h3, h4, h5⟩
    · refine .inl ⟨a, xs, h1, hK ▸ h2, h3, h4, ?_⟩
      rw [h5]
      exact post_here p hr (.bl b)
    · refine .inr (.inl ⟨k, z, h1, h2, ?_⟩)
      rw [h3]
      exact post_here p hr (.bl b)
    · refine .inr (.inr ⟨d, ds, hK ▸ h1, hK ▸ h2, h3, h4, ?_⟩)
      rw [h5]
      exact post_here p hr (.bl b)
  · exact p.elim⟩
theorem os_nin (hK : G.K = X.K) (hu : X.A.units + 65 < cLine) : OpS X G (compareOp .NotIn) cNin := ⟨_, op_notIn_seq.or (op_notIn_sign.or (op_notInD hu)), fun ρ h H x y dx dy Q W hr rx ry p => by
  unfold cNin at p
  split at p
  · rename_i b e
    rcases inR_ok hr rx ry e with (⟨a, xs, h1, h2, h3, h4, h5⟩ | ⟨k, z, h1, h2, h3⟩) | ⟨d, ds, h1, h2, h3, h4, h5⟩
    · refine .inl ⟨a, xs, h1, hK ▸ h2, h3, h4, ?_⟩
      rw [h5]
      exact post_here p hr (.bl _)
    · refine .inr (.inl ⟨k, z, h1, h2, ?_⟩)
      rw [h3]
      exact post_here p hr (.bl _)
    · refine .inr (.inr ⟨d, ds, hK ▸ h1, hK ▸ h2, h3, h4, ?_⟩)
      rw [h5]
      exact post_here p hr (.bl _)
  · exact p.elim⟩
end
theorem hu65 {A : Around} {n : Nat} (hr : Room n A) : A.units + 65 < cLine := by
  have := hr.un
  omega
end PI
/-! ## Pi3 -/
set_option Elab.async false
set_option linter.all false
set_option maxRecDepth 100000
set_option maxHeartbeats 1000000
set_option autoImplicit false
/-! PI, part 3: tests, displays, places, cuts, built-ins by name, methods. -/
namespace PI
open PySem L2
/-- what is wanted behind any denotation; F may ask the plain heap -/
def PostG {α : Type} (G : Gx) (ρ : List Addr) (H : Hp) (F : List Addr → Hh → Hp → α → Prop) (W : XK) : Res α → Prop
  | .bad => False
  | .ok a h => ∀ ρ' H', Le G ρ H ρ' H' → HR G ρ' h H' → F ρ' h H' a
  | .exc c fs h => ∀ ρ' dd H', Le G ρ H ρ' H' → HR G ρ' h H' → XR G ρ' H' dd fs → W (G.cm c) dd H'
section
variable {α : Type} {G : Gx} {ρ : List Addr} {H : Hp} {W : XK} {r : Res α} {h : Hh} {σ : L2.St} {e : En}
theorem Post.bind {Q : VK} {k : α → Hh → Res D} (p : Post G ρ H Q W (r.bind k)) : PostG G ρ H (fun ρ' h' H' a => Post G ρ' H' Q W (k a h')) W r := by
  cases r with
  | bad => exact p
  | ok a h => exact fun ρ' H' l _ => Post.le l p
  | exc c fs h => exact p
theorem PostB.bind {Q : Bool → Hp → Prop} {k : α → Hh → Res Bool} (p : PostB G ρ H Q W (r.bind k)) : PostG G ρ H (fun ρ' h' H' a => PostB G ρ' H' Q W (k a h')) W r := by
  cases r with
  | bad => exact p
  | ok a h => exact fun ρ' H' l _ => PostB.le l p
  | exc c fs h => exact p
theorem PostA.bind {Q : List V → Hp → Prop} {k : α → Hh → Res (List D)} (p : PostA G ρ H Q W (r.bind k)) : PostG G ρ H (fun ρ' h' H' a => PostA G ρ' H' Q W (k a h')) W r := by
  cases r with
  | bad => exact p
  | ok a h => exact fun ρ' H' l _ => PostA.le l p
  | exc c fs h => exact p
end
section
variable {G : Gx} {ρ : List Addr} {H : Hp} {h : Hh} {σ : L2.St} {e : En} {W : WX}
/-- into an expression's reading -/
theorem tI.intro {a : Den} {Q : VK} {F : List Addr → Hh → Hp → D → Prop} (hr : HR G ρ h H) (er : ER G ρ H σ e) (p : PostG G ρ H F (fun c d H' => W c d σ H') (a e h))
    (f : ∀ ρ' h' H' d v, Le G ρ H ρ' H' → HR G ρ' h' H' → RD G ρ' H' v d → F ρ' h' H' d → Q v H') : tI G W a σ H Q := by
  refine ⟨ρ, h, e, hr, er, ?_⟩
  cases q : a e h with
  | bad => rw [q] at p; exact p
  | ok d h' => rw [q] at p; exact fun ρ' v H' l hr' r => f ρ' h' H' d v l hr' r (p ρ' H' l hr')
  | exc c fs h' => rw [q] at p; exact p
theorem tB'.intro {a : TDen} {Q : Bool → Hp → Prop} {F : List Addr → Hh → Hp → Bool → Prop} (hr : HR G ρ h H) (er : ER G ρ H σ e) (p : PostG G ρ H F (fun c d H' => W c d σ H') (a e h))
    (f : ∀ ρ' h' H' b, Le G ρ H ρ' H' → HR G ρ' h' H' → F ρ' h' H' b → Q b H') : tB' G W a σ H Q := by
  refine ⟨ρ, h, e, hr, er, ?_⟩
  cases q : a e h with
  | bad => rw [q] at p; exact p
  | ok d h' => rw [q] at p; exact fun ρ' H' l hr' => f ρ' h' H' d l hr' (p ρ' H' l hr')
  | exc c fs h' => rw [q] at p; exact p
theorem tA.intro {a : ADen} {Q : List V → Hp → Prop} {F : List Addr → Hh → Hp → List D → Prop} (hr : HR G ρ h H) (er : ER G ρ H σ e) (p : PostG G ρ H F (fun c d H' => W c d σ H') (a e h))
    (f : ∀ ρ' h' H' d v, Le G ρ H ρ' H' → HR G ρ' h' H' → RDs G ρ' H' v d → F ρ' h' H' d → Q v H') : tA G W a σ H Q := by
  refine ⟨ρ, h, e, hr, er, ?_⟩
  cases q : a e h with
  | bad => rw [q] at p; exact p
  | ok d h' => rw [q] at p; exact fun ρ' v H' l hr' r => f ρ' h' H' d v l hr' r (p ρ' H' l hr')
  | exc c fs h' => rw [q] at p; exact p
end

/-! ### argument lists, displays -/
section
variable {X : Cx} {G : Gx} {W : WX} {pos : Pos} {e : Expr} {es : List Expr} {da : Den} {dr : ADen}
theorem ia_nil : PA X [] (tA G W aNil) := pa_imp pa_nil fun σ H Q ⟨ρ, h, e, hr, er, p⟩ => p ρ [] H Le.refl hr .nil
theorem ia_cons (ha : PE X e (tI G W da)) (hr : PA X es (tA G W dr)) (hs : starEach (e :: es) X.env = (false, eval e X.env) :: starEach es X.env := by rfl) : PA X (e :: es) (tA G W (aCons da dr)) := by
  refine pa_imp (pa_cons ha hr hs) fun σ H Q ⟨ρ, h, e, hr, er, p⟩ => ?_
  refine tI.intro hr er (PostA.bind p) fun ρ1 h1 H1 x v l1 hr1 r1 p1 => ?_
  refine tA.intro hr1 (er.mono l1) (PostA.bind p1) fun ρ2 h2 H2 xs vs l2 hr2 r2 p2 => ?_
  exact p2 ρ2 _ H2 Le.refl hr2 (.cons (r1.mono l2) r2)
theorem ie_tup {k : Nat} (h : PA X es (tA G W dr)) : PE X (.Tuple es k pos) (tI G W (dTup dr)) := by
  refine pe_imp (pe_tup h) fun σ H Q ⟨ρ, h, e, hr, er, p⟩ => ?_
  refine tA.intro hr er (Post.bind p) fun ρ1 h1 H1 xs vs l1 hr1 r1 p1 => ?_
  split at p1
  · rename_i c
    rw [SLe, ← r1.length] at c
    exact ⟨c, fun a ha => post_tup p1 hr1 r1 ha⟩
  · exact p1.elim
theorem ie_lst (h : PA X es (tA G W dr)) : PE X (.List es pos) (tI G W (dLst dr)) := by
  refine pe_imp (pe_lst h) fun σ H Q ⟨ρ, h, e, hr, er, p⟩ => ?_
  refine tA.intro hr er (Post.bind p) fun ρ1 h1 H1 xs vs l1 hr1 r1 p1 => ?_
  split at p1
  · rename_i c
    rw [SLe, ← r1.length] at c
    exact ⟨c, fun a ha => post_lst p1 hr1 r1 ha⟩
  · exact p1.elim
end

/-! ### truth, tests -/
theorem isEmpty_rds {G : Gx} {ρ : List Addr} {H : Hp} {vs : List V} {ds : List D} (r : RDs G ρ H vs ds) : vs.isEmpty = ds.isEmpty := by cases r <;> rfl
theorem isEmpty_rk {κ κ' : Type} {f : κ → κ'} {G : Gx} {ρ : List Addr} {H : Hp} {vs : List (κ' × V)} {ds : List (κ × D)} (r : RK f G ρ H vs ds) : vs.isEmpty = ds.isEmpty := by cases r <;> rfl
theorem truth_ok {G : Gx} {ρ : List Addr} {H : Hp} {h : Hh} {x : V} {d : D} {k : Bool} (hr : HR G ρ h H) (r : RD G ρ H x d) (e : truth h d = some k) : TruV G.K x H k := by
  cases r with
  | non => exact (Option.some.inj e).symm
  | bl b => exact (Option.some.inj e).symm
  | int i => exact (Option.some.inj e).symm
  | str x =>
    simp only [truth] at e
    split at e
    · rename_i c
      refine ⟨by rw [len_str, ← SLe]; exact c, ?_⟩
      rw [← Option.some.inj e, len_str]
      cases x.cps.toList with
      | nil => rfl
      | cons y ys =>
        rw [Bool.eq_iff_iff]
        simp
        omega
    · cases e
  | tup hs rs =>
    refine .inr (.inl ⟨_, hs, ?_⟩)
    rw [isEmpty_rds rs]
    exact (Option.some.inj e).symm
  | ref q =>
    simp only [truth] at e
    split at e
    · rename_i xs g
      obtain ⟨vs, g1, g2⟩ := hr.ok _ _ _ q g
      refine .inl ⟨vs, SqL.of g1, ?_⟩
      rw [isEmpty_rds g2]
      exact (Option.some.inj e).symm
    · rename_i xs g
      obtain ⟨vs, g1, g2⟩ := hr.ok _ _ _ q g
      refine .inr (.inr ⟨vs, g1, ?_⟩)
      rw [isEmpty_rk g2]
      exact (Option.some.inj e).symm
    · cases e
  | rl hs rs =>
    refine .inl ⟨_, hs.sq, ?_⟩
    rw [isEmpty_rds rs]
    exact (Option.some.inj e).symm
  | cv n => cases e
section
variable {X : Cx} {G : Gx} {W : WX} {pos : Pos} {a b c : Expr} {da db dc : Den} {ta tb : TDen} {f g : D → D → Hh → Res D} {rest : List Expr}
/-- an expression as a test, by its value's truth -/
theorem it_truth (hK : G.K = X.K) (ha : PE X a (tI G W da)) (he : ∀ whole, isTrue a X.env whole = (do let v ← whole; standAt a.pos; holding [v] (truthy v)) := by intro _; rfl) : PT X a (tB' G W (tT da)) := by
  refine pt_imp (pt_truth ha he) fun σ H Q ⟨ρ, h, e, hr, er, p⟩ => ?_
  refine tI.intro hr er (PostB.bind p) fun ρ1 h1 H1 x v l1 hr1 r1 p1 => ?_
  split at p1
  · rename_i k q
    exact ⟨k, hK ▸ truth_ok hr1 r1 q, p1 ρ1 H1 Le.refl hr1⟩
  · exact p1.elim
theorem tV_val {σ : L2.St} {H : Hp} {Q : Bool → Hp → Prop} (p : tB' G W (tV da) σ H Q) : tI G W da σ H fun x H' => ∃ k, x = .bl k ∧ Q k H' := by
  obtain ⟨ρ, h, e, hr, er, p⟩ := p
  refine tI.intro hr er (PostB.bind p) fun ρ1 h1 H1 x v l1 hr1 r1 p1 => ?_
  cases r1 <;> first
    | exact False.elim p1
    | exact ⟨_, rfl, p1 ρ1 H1 Le.refl hr1⟩
theorem it_cmp {op : CmpOp} (o : OpS X G (compareOp op) f) (ha : PE X a (tI G W da)) (hb : PE X b (tI G W db)) (hm : behindInMarks op b = false := by first | exact nomark _ | rfl | with_unfolding_all rfl) : PT X (.Compare a [op] [b] pos) (tB' G W (tV (dBin f da db))) := by
  obtain ⟨r, h1, h2⟩ := o
  exact pt_imp (pt_cmpR h1 ha hb hm) fun σ H Q p => tI_bin h2 σ H _ (tV_val p)
/-- a op b op' c -/
theorem tI_chain {r r' : R2} (hr : ∀ ρ h H x y dx dy (Q : VK) (W : XK), HR G ρ h H → RD G ρ H x dx → RD G ρ H y dy → Post G ρ H Q W (f dx dy h) → r x y H Q)
    (hr' : ∀ ρ h H x y dx dy (Q : VK) (W : XK), HR G ρ h H → RD G ρ H x dx → RD G ρ H y dy → Post G ρ H Q W (g dx dy h) → r' x y H Q) (σ : L2.St) (H : Hp) (Q : VK)
    (p : tI G W (dChain f g da db dc) σ H Q) : tChain r r' (tI G W da) (tI G W db) (tI G W dc) σ H Q := by
  obtain ⟨ρ, h, e, hh, er, p⟩ := p
  refine tI.intro hh er (Post.bind p) fun ρ1 h1 H1 x v l1 hh1 r1 p1 => ?_
  refine tI.intro hh1 (er.mono l1) (Post.bind p1) fun ρ2 h2 H2 y w l2 hh2 r2 p2 => ?_
  have p2' := Post.bind p2
  refine hr ρ2 h2 H2 v w x y _ (fun c d H' => W c d σ H') hh2 (r1.mono l2) r2 ?_
  cases q : f x y h2 with
  | bad => rw [q] at p2'; exact p2'
  | exc c fs h3 => rw [q] at p2'; exact p2'
  | ok z h3 =>
    rw [q] at p2'
    intro ρ3 vz H3 l3 hh3 r3
    have p3 := p2' ρ3 H3 l3 hh3
    cases r3 <;> first
      | exact False.elim p3
      | skip
    rename_i k
    refine ⟨k, rfl, ?_⟩
    cases k with
    | false => exact iteF (post_here p3 hh3 (.bl false))
    | true =>
      refine iteT ?_
      refine tI.intro hh3 (((er.mono l1).mono l2).mono l3) (Post.bind p3) fun ρ4 h4 H4 u vu l4 hh4 r4 p4 => ?_
      exact hr' ρ4 h4 H4 w vu y u Q _ hh4 ((r2.mono l3).mono l4) r4 p4
theorem ie_chain {op op' : CmpOp} (o : OpS X G (compareOp op) f) (o' : OpS X G (compareOp op') g) (ha : PE X a (tI G W da)) (hb : PE X b (tI G W db)) (hc : PE X c (tI G W dc))
    (hm : lastMarks [op, op'] [b, c] = false := by with_unfolding_all rfl) : PE X (.Compare a [op, op'] [b, c] pos) (tI G W (dChain f g da db dc)) := by
  obtain ⟨r, h1, h2⟩ := o
  obtain ⟨r', h1', h2'⟩ := o'
  exact pe_imp (pe_chain h1 h1' ha hb hc hm) (tI_chain h2 h2')
theorem it_chain {op op' : CmpOp} (o : OpS X G (compareOp op) f) (o' : OpS X G (compareOp op') g) (ha : PE X a (tI G W da)) (hb : PE X b (tI G W db)) (hc : PE X c (tI G W dc))
    (hm : lastMarks [op, op'] [b, c] = false := by with_unfolding_all rfl) : PT X (.Compare a [op, op'] [b, c] pos) (tB' G W (tV (dChain f g da db dc))) := by
  obtain ⟨r, h1, h2⟩ := o
  obtain ⟨r', h1', h2'⟩ := o'
  exact pt_imp (pt_chain h1 h1' ha hb hc hm) fun σ H Q p => tI_chain h2 h2' σ H _ (tV_val p)
theorem iw_and1 (ha : PT X a (tB' G W ta)) : PW X (.BoolOp .And [a] pos) (tB' G W ta) := pw_and1 ha
theorem iw_or1 (ha : PT X a (tB' G W ta)) : PW X (.BoolOp .Or [a] pos) (tB' G W ta) := pw_or1 ha
theorem iw_and (ha : PT X a (tB' G W ta)) (hb : PW X (.BoolOp .And (b :: rest) pos) (tB' G W tb)) : PW X (.BoolOp .And (a :: b :: rest) pos) (tB' G W (PI.tAnd ta tb)) := by
  refine pw_imp (pw_and ha hb) fun σ H Q ⟨ρ, h, e, hr, er, p⟩ => ?_
  refine tB'.intro hr er (PostB.bind p) fun ρ1 h1 H1 k l1 hr1 p1 => ?_
  cases k with
  | true => exact iteT ⟨ρ1, h1, e, hr1, er.mono l1, p1⟩
  | false => exact iteF (p1 ρ1 H1 Le.refl hr1)
theorem iw_or (ha : PT X a (tB' G W ta)) (hb : PW X (.BoolOp .Or (b :: rest) pos) (tB' G W tb)) : PW X (.BoolOp .Or (a :: b :: rest) pos) (tB' G W (PI.tOr ta tb)) := by
  refine pw_imp (pw_or ha hb) fun σ H Q ⟨ρ, h, e, hr, er, p⟩ => ?_
  refine tB'.intro hr er (PostB.bind p) fun ρ1 h1 H1 k l1 hr1 p1 => ?_
  cases k with
  | true => exact iteT (p1 ρ1 H1 Le.refl hr1)
  | false => exact iteF ⟨ρ1, h1, e, hr1, er.mono l1, p1⟩
theorem it_not (ha : PT X a (tB' G W ta)) : PT X (.UnaryOp .Not a pos) (tB' G W (PI.tNot ta)) := by
  refine pt_imp (pt_not ha) fun σ H Q ⟨ρ, h, e, hr, er, p⟩ => ?_
  exact tB'.intro hr er (PostB.bind p) fun ρ1 h1 H1 k l1 hr1 p1 => p1 ρ1 H1 Le.refl hr1
/-- and, or, not as values -/
theorem ie_one {op : BoolOp} (ha : PE X a (tI G W da)) : PE X (.BoolOp op [a] pos) (tI G W da) := pe_one ha
theorem ie_and (hK : G.K = X.K) (ha : PE X a (tI G W da)) (hb : PE X (.BoolOp .And (b :: rest) pos) (tI G W db)) : PE X (.BoolOp .And (a :: b :: rest) pos) (tI G W (dAnd da db)) := by
  refine pe_imp (pe_andT ha hb) fun σ H Q ⟨ρ, h, e, hr, er, p⟩ => ?_
  refine tI.intro hr er (Post.bind p) fun ρ1 h1 H1 x v l1 hr1 r1 p1 => ?_
  split at p1
  · rename_i q
    exact ⟨true, hK ▸ truth_ok hr1 r1 q, iteT ⟨ρ1, h1, e, hr1, er.mono l1, p1⟩⟩
  · rename_i q
    exact ⟨false, hK ▸ truth_ok hr1 r1 q, iteF (post_here p1 hr1 r1)⟩
  · exact p1.elim
theorem ie_or (hK : G.K = X.K) (ha : PE X a (tI G W da)) (hb : PE X (.BoolOp .Or (b :: rest) pos) (tI G W db)) : PE X (.BoolOp .Or (a :: b :: rest) pos) (tI G W (dOr da db)) := by
  refine pe_imp (pe_orT ha hb) fun σ H Q ⟨ρ, h, e, hr, er, p⟩ => ?_
  refine tI.intro hr er (Post.bind p) fun ρ1 h1 H1 x v l1 hr1 r1 p1 => ?_
  split at p1
  · rename_i q
    exact ⟨true, hK ▸ truth_ok hr1 r1 q, iteT (post_here p1 hr1 r1)⟩
  · rename_i q
    exact ⟨false, hK ▸ truth_ok hr1 r1 q, iteF ⟨ρ1, h1, e, hr1, er.mono l1, p1⟩⟩
  · exact p1.elim
theorem ie_not (hK : G.K = X.K) (ha : PE X a (tI G W da)) : PE X (.UnaryOp .Not a pos) (tI G W (dNot da)) := by
  refine pe_imp (pe_notT ha) fun σ H Q ⟨ρ, h, e, hr, er, p⟩ => ?_
  refine tI.intro hr er (Post.bind p) fun ρ1 h1 H1 x v l1 hr1 r1 p1 => ?_
  split at p1
  · rename_i k q
    exact ⟨k, hK ▸ truth_ok hr1 r1 q, post_here p1 hr1 (.bl _)⟩
  · exact p1.elim
theorem ie_if (hc : PT X c (tB' G W ta)) (ha : PE X a (tI G W da)) (hb : PE X b (tI G W db)) : PE X (.IfExp c a b pos) (tI G W (dIf ta da db)) := by
  refine pe_imp (pe_ifExp hc ha hb) fun σ H Q ⟨ρ, h, e, hr, er, p⟩ => ?_
  refine tB'.intro hr er (Post.bind p) fun ρ1 h1 H1 k l1 hr1 p1 => ?_
  cases k with
  | true => exact iteT ⟨ρ1, h1, e, hr1, er.mono l1, p1⟩
  | false => exact iteF ⟨ρ1, h1, e, hr1, er.mono l1, p1⟩
/-- is None, is not None -/
theorem isN_ok {ρ : List Addr} {H : Hp} {v : V} {d : D} {k : Bool} (r : RD G ρ H v d) (e : isN d = some k) : decide (v = .non) = k := by
  cases r <;> simp_all [isN]
theorem ie_isN {j : Nat} {p2 : Pos} (ha : PE X a (tI G W da)) : PE X (.Compare a [.Is] [.Constant .none j p2] pos) (tI G W (dUn cIsN da)) := by
  refine pe_imp (pe_cmpR op_isN ha pe_non (nomark _)) fun σ H Q ⟨ρ, h, e, hr, er, p⟩ => ?_
  refine tI.intro hr er (Post.bind p) fun ρ1 h1 H1 x v l1 hr1 r1 p1 => ⟨rfl, ?_⟩
  unfold cIsN at p1
  split at p1
  · rename_i k q
    rw [isN_ok r1 q]
    exact post_here p1 hr1 (.bl k)
  · exact p1.elim
theorem ie_notN {j : Nat} {p2 : Pos} (ha : PE X a (tI G W da)) : PE X (.Compare a [.IsNot] [.Constant .none j p2] pos) (tI G W (dUn cNotN da)) := by
  refine pe_imp (pe_cmpR op_notN ha pe_non (nomark _)) fun σ H Q ⟨ρ, h, e, hr, er, p⟩ => ?_
  refine tI.intro hr er (Post.bind p) fun ρ1 h1 H1 x v l1 hr1 r1 p1 => ⟨rfl, ?_⟩
  unfold cNotN at p1
  split at p1
  · rename_i k q
    rw [isN_ok r1 q]
    exact post_here p1 hr1 (.bl _)
  · exact p1.elim
theorem it_isN {j : Nat} {p2 : Pos} (ha : PE X a (tI G W da)) : PT X (.Compare a [.Is] [.Constant .none j p2] pos) (tB' G W (tV (dUn cIsN da))) := by
  refine pt_imp (pt_cmpR op_isN ha pe_non (nomark _)) fun σ H Q p => ?_
  obtain ⟨ρ, h, e, hr, er, p⟩ := tV_val p
  refine tI.intro hr er (Post.bind p) fun ρ1 h1 H1 x v l1 hr1 r1 p1 => ⟨rfl, ?_⟩
  unfold cIsN at p1
  split at p1
  · rename_i k q
    rw [isN_ok r1 q]
    exact post_here p1 hr1 (.bl k)
  · exact p1.elim
theorem it_notN {j : Nat} {p2 : Pos} (ha : PE X a (tI G W da)) : PT X (.Compare a [.IsNot] [.Constant .none j p2] pos) (tB' G W (tV (dUn cNotN da))) := by
  refine pt_imp (pt_cmpR op_notN ha pe_non (nomark _)) fun σ H Q p => ?_
  obtain ⟨ρ, h, e, hr, er, p⟩ := tV_val p
  refine tI.intro hr er (Post.bind p) fun ρ1 h1 H1 x v l1 hr1 r1 p1 => ⟨rfl, ?_⟩
  unfold cNotN at p1
  split at p1
  · rename_i k q
    rw [isN_ok r1 q]
    exact post_here p1 hr1 (.bl _)
  · exact p1.elim
/-- what is compares with a bool by its looks -/
def isV : V → Bool
  | .non => true | .bl _ => true | .int _ => true | .str _ => true | .ref _ => true | _ => false
theorem op_isX : OpR X (compareOp .Is) (fun x y H Q => ∃ c, y = .bl c ∧ isV x = true ∧ Q (.bl (decide (x = .bl c))) H) := by
  intro pins s σ H x y v u Q I rx ry h
  obtain ⟨c, rfl, hx, q⟩ := h
  cases (show u = Value.bool c from ry)
  by_cases e : x = .bl c
  · subst e
    cases (show v = Value.bool c from rx)
    exact wpAny_is_self rfl ⟨.bl true, H, I, rfl, by simpa using q⟩
  · rw [decide_eq_false e] at q
    cases x <;> first
      | (cases hx; done)
      | skip
    · cases rx
      exact wpAny_is_other rfl (fun z => nomatch z) ⟨.bl false, H, I, rfl, q⟩
    · cases rx
      exact wpAny_is_other rfl (fun z => e (congrArg V.bl (Value.bool.inj z))) ⟨.bl false, H, I, rfl, q⟩
    · obtain ⟨t, rfl⟩ := rx
      exact wpAny_is_other rfl (fun z => nomatch z) ⟨.bl false, H, I, rfl, q⟩
    · obtain ⟨t, rfl⟩ := rx
      exact wpAny_is_other rfl (fun z => nomatch z) ⟨.bl false, H, I, rfl, q⟩
    · cases rx
      exact wpAny_is_other rfl (fun z => nomatch z) ⟨.bl false, H, I, rfl, q⟩
theorem op_notX : OpR X (compareOp .IsNot) (fun x y H Q => ∃ c, y = .bl c ∧ isV x = true ∧ Q (.bl (!decide (x = .bl c))) H) := by
  intro pins s σ H x y v u Q I rx ry h
  obtain ⟨c, rfl, hx, q⟩ := h
  cases (show u = Value.bool c from ry)
  by_cases e : x = .bl c
  · subst e
    cases (show v = Value.bool c from rx)
    exact wpAny_isNot_self rfl ⟨.bl false, H, I, rfl, by simpa using q⟩
  · rw [decide_eq_false e] at q
    cases x <;> first
      | (cases hx; done)
      | skip
    · cases rx
      exact wpAny_isNot_other rfl (fun z => nomatch z) ⟨.bl true, H, I, rfl, q⟩
    · cases rx
      exact wpAny_isNot_other rfl (fun z => e (congrArg V.bl (Value.bool.inj z))) ⟨.bl true, H, I, rfl, q⟩
    · obtain ⟨t, rfl⟩ := rx
      exact wpAny_isNot_other rfl (fun z => nomatch z) ⟨.bl true, H, I, rfl, q⟩
    · obtain ⟨t, rfl⟩ := rx
      exact wpAny_isNot_other rfl (fun z => nomatch z) ⟨.bl true, H, I, rfl, q⟩
    · cases rx
      exact wpAny_isNot_other rfl (fun z => nomatch z) ⟨.bl true, H, I, rfl, q⟩
theorem isBl_ok {ρ : List Addr} {H : Hp} {c b : Bool} {v : V} {d : D} (r : RD G ρ H v d) (e : isBl c d = some b) : isV v = true ∧ decide (v = .bl c) = b := by
  cases r with
  | bl a =>
    cases e
    refine ⟨rfl, ?_⟩
    by_cases q : a = c
    · rw [decide_eq_true q, decide_eq_true (congrArg V.bl q)]
    · rw [decide_eq_false q, decide_eq_false fun z => q (V.bl.inj z)]
  | cv n => cases e
  | non => cases e; exact ⟨rfl, decide_eq_false fun z => nomatch z⟩
  | int i => cases e; exact ⟨rfl, decide_eq_false fun z => nomatch z⟩
  | str x => cases e; exact ⟨rfl, decide_eq_false fun z => nomatch z⟩
  | tup _ _ => cases e; exact ⟨rfl, decide_eq_false fun z => nomatch z⟩
  | ref _ => cases e; exact ⟨rfl, decide_eq_false fun z => nomatch z⟩
  | rl _ _ => cases e; exact ⟨rfl, decide_eq_false fun z => nomatch z⟩
theorem os_isB : OpS X G (compareOp .Is) cIsB := ⟨_, op_isX, fun ρ h H x y dx dy Q W hr rx ry p => by
  cases ry <;> first
    | (cases dx <;> exact False.elim p)
    | skip
  simp only [cIsB] at p
  split at p
  · rename_i b e
    obtain ⟨h1, h2⟩ := isBl_ok rx e
    exact ⟨_, rfl, h1, by rw [h2]; exact post_here p hr (.bl _)⟩
  · exact p.elim⟩
theorem os_notB : OpS X G (compareOp .IsNot) cNotB := ⟨_, op_notX, fun ρ h H x y dx dy Q W hr rx ry p => by
  cases ry <;> first
    | (cases dx <;> exact False.elim p)
    | skip
  simp only [cNotB] at p
  split at p
  · rename_i b e
    obtain ⟨h1, h2⟩ := isBl_ok rx e
    exact ⟨_, rfl, h1, by rw [h2]; exact post_here p hr (.bl _)⟩
  · exact p.elim⟩
end

/-! ### places, cuts -/
theorem ixOf_eq (n : Nat) (i : Int) : ixOf n i = ixN n i := rfl
theorem atIx_get {G : Gx} {ρ : List Addr} {H : Hp} {vs : List V} {ds : List D} {i : Int} {d : D} (r : RDs G ρ H vs ds) (e : atIx ds i = some d) : ∃ v, atI vs i = some v ∧ RD G ρ H v d := by
  unfold atIx at e
  unfold atI
  rw [r.length, ← ixOf_eq]
  cases q : ixOf ds.length i with
  | none => rw [q] at e; cases e
  | some j =>
    rw [q] at e
    exact r.get e
theorem sIdx_eq (n d : Nat) (o : Option Int) : sIdx n d o = HT.sIx n d o := by
  cases o <;> rfl
theorem cut_str (z : Str) (lo hi : Option Int) : (cutS z lo hi).cps.toList = cut z.cps.toList lo hi := by
  unfold cutS cut
  rw [sIdx_eq, sIdx_eq, len_str]
theorem cut_eq {G : Gx} {ρ : List Addr} {H : Hp} {vs : List V} {ds : List D} (lo hi : Option Int) (r : RDs G ρ H vs ds) : RDs G ρ H (cutV vs lo hi) (cut ds lo hi) := by
  have e : ∀ (n d : Nat) (o : Option Int), sIdx n d o = HT.sIx n d o := fun n d o => by
    cases o with
    | none => rfl
    | some v => rfl
  unfold cutV cut
  rw [r.length, e, e]
  exact (r.drop _).take _
section
variable {X : Cx} {G : Gx} {W : WX} {pos p2 : Pos} {a b : Expr} {lo hi : Option Expr} {da db : Den} {dl dh : ODen}
theorem ie_ix (hK : G.K = X.K) (ha : PE X a (tI G W da)) (hb : PE X b (tI G W db)) (hs : PlainIx b := by exact fun _ _ => rfl) : PE X (.Subscript a b pos) (tI G W (dBin oIx da db)) := by
  refine pe_imp (pe_ix ix_seq ha hb hs) (tI_bin fun ρ h H x y dx dy Q W hr rx ry p => ?_)
  cases dx with
  | tup ds =>
    cases rx with
    | tup hs r =>
      cases ry <;> first
        | exact False.elim p
        | skip
      simp only [oIx] at p
      split at p
      · rename_i d q
        obtain ⟨v, g1, g2⟩ := atIx_get r q
        exact .inr (.inl ⟨_, _, _, v, rfl, rfl, hK ▸ hs, g1, post_here p hr g2⟩)
      · exact p.elim
  | str s =>
    obtain ⟨z, rfl, rfl⟩ := rd_str_inv rx
    cases ry <;> first
      | exact False.elim p
      | skip
    simp only [oIx] at p
    split at p
    · rename_i c
      split at p
      · rename_i d q
        refine .inr (.inr ⟨z, _, d, rfl, rfl, by rw [len_str, ← SLe]; exact c, ?_, post_here p hr (rd_str rfl)⟩)
        exact q
      · exact p.elim
    · exact p.elim
  | ref n =>
    cases ry <;> first
      | exact False.elim p
      | skip
    simp only [oIx] at p
    split at p
    · rename_i xs g
      obtain ⟨_, vs, rfl, g1, g2⟩ := list_ok hr rx g
      split at p
      · rename_i d q
        obtain ⟨v, g3, g4⟩ := atIx_get g2 q
        exact .inl ⟨_, _, _, v, rfl, rfl, hK ▸ g1, g3, post_here p hr g4⟩
      · exact p.elim
    · exact p.elim
  | rl n =>
    cases ry <;> first
      | exact False.elim p
      | skip
    simp only [oIx] at p
    split at p
    · rename_i xs g
      obtain ⟨_, vs, rfl, g1, g2⟩ := list_ok hr rx g
      split at p
      · rename_i d q
        obtain ⟨v, g3, g4⟩ := atIx_get g2 q
        exact .inl ⟨_, _, _, v, rfl, rfl, hK ▸ g1, g3, post_here p hr g4⟩
      · exact p.elim
    · exact p.elim
  | _ => cases ry <;> exact False.elim p
/-- a part of a cut -/
def PostO (G : Gx) (ρ : List Addr) (H : Hp) (Q : Option Int → Hp → Prop) (W : XK) : Res (Option Int) → Prop
  | .bad => False
  | .ok o h => ∀ ρ' H', Le G ρ H ρ' H' → HR G ρ' h H' → Q o H'
  | .exc c fs h => ∀ ρ' dd H', Le G ρ H ρ' H' → HR G ρ' h H' → XR G ρ' H' dd fs → W (G.cm c) dd H'
def tO (G : Gx) (W : WX) (a : ODen) : TO := fun σ H Q => ∃ ρ h e, HR G ρ h H ∧ ER G ρ H σ e ∧ PostO G ρ H Q (fun c d H' => W c d σ H') (a e h)
theorem tO.intro {ρ : List Addr} {H : Hp} {h : Hh} {σ : L2.St} {e : En} {a : ODen} {Q : Option Int → Hp → Prop} {F : List Addr → Hh → Hp → Option Int → Prop} (hr : HR G ρ h H) (er : ER G ρ H σ e) (p : PostG G ρ H F (fun c d H' => W c d σ H') (a e h))
    (f : ∀ ρ' h' H' b, Le G ρ H ρ' H' → HR G ρ' h' H' → F ρ' h' H' b → Q b H') : tO G W a σ H Q := by
  refine ⟨ρ, h, e, hr, er, ?_⟩
  cases q : a e h with
  | bad => rw [q] at p; exact p
  | ok d h' => rw [q] at p; exact fun ρ' H' l hr' => f ρ' h' H' d l hr' (p ρ' H' l hr')
  | exc c fs h' => rw [q] at p; exact p
theorem po_imp {e : Option Expr} {t t' : TO} (p : PO X e t) (h : ∀ σ H Q, t' σ H Q → t σ H Q) : PO X e t' := ⟨fun pins s σ H Q I q => p.run pins s σ H Q I (h σ H Q q)⟩
theorem io_none : PO X none (tO G W pNone) := po_imp po_none fun σ H Q ⟨ρ, h, e, hr, er, p⟩ => p ρ H Le.refl hr
theorem io_some (ha : PE X a (tI G W da)) : PO X (some a) (tO G W (pSome da)) := by
  refine po_imp (po_some ha) fun σ H Q ⟨ρ, h, e, hr, er, p⟩ => ?_
  have p' : PostG G ρ H (fun ρ' h' H' x => match x with | .int i => ∀ ρ2 H2, Le G ρ' H' ρ2 H2 → HR G ρ2 h' H2 → Q (some i) H2 | _ => False) (fun c d H' => W c d σ H') (da e h) := by
    unfold pSome at p
    cases q : da e h with
    | bad => rw [q] at p; exact p
    | exc c fs h' => rw [q] at p; exact p
    | ok x h' =>
      rw [q] at p
      intro ρ' H' l hr'
      cases x <;> first
        | exact False.elim p
        | exact fun ρ2 H2 l2 => p ρ2 H2 (l.trans l2)
  refine tI.intro hr er p' fun ρ1 h1 H1 x v l1 hr1 r1 p1 => ?_
  cases r1 <;> first
    | exact False.elim p1
    | exact ⟨_, rfl, p1 ρ1 H1 Le.refl hr1⟩
theorem rds_same {ρ : List Addr} {H : Hp} {vs : List V} {ds : List D} {lo hi : Option Int} (r : RDs G ρ H vs ds) (w : HT.sIx vs.length 0 lo = 0 ∧ HT.sIx vs.length vs.length hi = vs.length) : RDs G ρ H vs (cut ds lo hi) := by
  have q := cut_eq lo hi r
  have e : cutV vs lo hi = vs := by
    unfold cutV
    rw [w.1, w.2]
    simp
  rw [e] at q
  exact q
theorem ie_sl (hK : G.K = X.K) (ha : PE X a (tI G W da)) (hl : PO X lo (tO G W dl)) (hh : PO X hi (tO G W dh)) : PE X (.Subscript a (.Slice lo hi none p2) pos) (tI G W (dSl da dl dh)) := by
  refine pe_imp (pe_slice (sl_list.or (sl_tupA.or sl_str)) ha hl hh) fun σ H Q ⟨ρ, h, e, hr, er, p⟩ => ?_
  refine tI.intro hr er (Post.bind p) fun ρ1 h1 H1 x v l1 hr1 r1 p1 => ?_
  refine tO.intro hr1 (er.mono l1) (Post.bind p1) fun ρ2 h2 H2 l l2 hr2 p2 => ?_
  refine tO.intro hr2 ((er.mono l1).mono l2) (Post.bind p2) fun ρ3 h3 H3 u l3 hr3 p3 => ?_
  have r3 := (r1.mono l2).mono l3
  have r4 := r3
  cases r3 with
  | tup hs r =>
    refine .inr (.inl ⟨_, _, rfl, hK ▸ hs, fun w => ?_, fun _ a ha => post_tup p3 hr3 (cut_eq l u r) ha⟩)
    exact post_here p3 hr3 (.tup hs (rds_same r w))
  | str z =>
    simp only [oSl] at p3
    split at p3
    · rename_i c
      refine .inr (.inr ⟨z, rfl, by rw [len_str, ← SLe]; exact c, post_here p3 hr3 (rd_str (cut_str z l u))⟩)
    · exact p3.elim
  | ref q =>
    simp only [oSl] at p3
    split at p3
    · rename_i xs g
      obtain ⟨_, vs, e0, g1, g2⟩ := list_ok hr3 r4 g
      exact .inl ⟨_, _, e0, hK ▸ g1, fun a ha => post_lst p3 hr3 (cut_eq l u g2) ha⟩
    · exact p3.elim
  | rl q =>
    simp only [oSl] at p3
    split at p3
    · rename_i xs g
      obtain ⟨_, vs, e0, g1, g2⟩ := list_ok hr3 r4 g
      exact .inl ⟨_, _, e0, hK ▸ g1, fun a ha => post_lst p3 hr3 (cut_eq l u g2) ha⟩
    · exact p3.elim
  | _ => exact False.elim p3
end
end PI
/-! ## Pi4 -/
set_option Elab.async false
set_option linter.all false
set_option maxRecDepth 100000
set_option maxHeartbeats 1000000
set_option autoImplicit false
/-! PI, part 4: built-ins by name, isinstance, methods of lists. -/
namespace PI
open PySem L2
/-- a call of a known value does what g says -/
def CallS (X : Cx) (G : Gx) (f : Value) (g : List D → Hh → Res D) : Prop := ∃ r : List V → Hp → VK → Prop, CallR X f r ∧
  ∀ ρ h H xs ds (Q : VK) (W : XK), HR G ρ h H → RDs G ρ H xs ds → Post G ρ H Q W (g ds h) → r xs H Q
section
variable {X : Cx} {G : Gx} {W : WX} {pos p : Pos} {e : Expr} {es : List Expr} {da : Den} {dr : ADen} {g : List D → Hh → Res D} {x : Str}
theorem tI_args {r : List V → Hp → VK → Prop} (hr : ∀ ρ h H xs ds (Q : VK) (W : XK), HR G ρ h H → RDs G ρ H xs ds → Post G ρ H Q W (g ds h) → r xs H Q) (σ : L2.St) (H : Hp) (Q : VK) (p : tI G W (dArgs g dr) σ H Q) : tCB r (tA G W dr) σ H Q := by
  obtain ⟨ρ, h, e, hh, er, p⟩ := p
  exact tA.intro hh er (Post.bind p) fun ρ1 h1 H1 xs vs l1 hr1 r1 p1 => hr ρ1 h1 H1 vs xs Q _ hr1 r1 p1
theorem ie_callB {id : String} (c : CallS X G (.builtin id) g) (hg : Gl X x) (hm : X.mg x = none) (hv : bootBuiltins x = some (.builtin id)) (ha : PA X (e :: es) (tA G W dr)) (hn : x ≠ "__name__" := by decide) (hdb : (x == ("__debug__" : Str)) = false := by decide)
    (he : starEach (e :: es) X.env = (false, eval e X.env) :: starEach es X.env := by rfl) (hpl : (backTo pos (starEach es X.env)).any (·.1) = false := by rfl) : PE X (.Call (.Name x p) (e :: es) [] pos) (tI G W (dArgs g dr)) := by
  obtain ⟨r, h1, h2⟩ := c
  exact pe_imp (pe_callB h1 hg hm hv ha hn hdb he hpl) (tI_args h2)
theorem ie_callTy {T : String} (c : CallS X G (.type T) g) (hg : Gl X x) (hm : X.mg x = none) (hv : bootBuiltins x = some (.type T)) (ha : PA X (e :: es) (tA G W dr)) (hn : x ≠ "__name__" := by decide) (hdb : (x == ("__debug__" : Str)) = false := by decide)
    (he : starEach (e :: es) X.env = (false, eval e X.env) :: starEach es X.env := by rfl) (hpl : (backTo pos (starEach es X.env)).any (·.1) = false := by rfl) : PE X (.Call (.Name x p) (e :: es) [] pos) (tI G W (dArgs g dr)) := by
  obtain ⟨r, h1, h2⟩ := c
  exact pe_imp (pe_callTy h1 hg hm hv ha hn hdb he hpl) (tI_args h2)
end
section
variable {X : Cx} {G : Gx}
/-- the one argument of a call, by its form -/
theorem cs_len (hK : G.K = X.K) : CallS X G (.builtin "len") bLen := ⟨_, call_len.or call_lenD, fun ρ h H xs ds Q W hr r p => by
  cases r with
  | nil => exact False.elim p
  | cons a r' =>
    cases r' with
    | cons _ _ => cases a <;> exact False.elim p
    | nil =>
      cases a with
      | tup hs rs => exact .inl ⟨_, _, rfl, .inr ⟨_, hK ▸ hs, rfl⟩, by rw [rs.length]; exact post_here p hr (.int _)⟩
      | str z =>
        simp only [bLen] at p
        split at p
        · rename_i c
          exact .inl ⟨_, _, rfl, ⟨by rw [len_str, ← SLe]; exact c, rfl⟩, by rw [len_str]; exact post_here p hr (.int _)⟩
        · exact p.elim
      | ref q =>
        simp only [bLen] at p
        split at p
        · rename_i ys g
          obtain ⟨vs, g1, g2⟩ := hr.ok _ _ _ q g
          exact .inl ⟨_, _, rfl, .inl ⟨vs, SqL.of g1, rfl⟩, by rw [g2.length]; exact post_here p hr (.int _)⟩
        · rename_i ys g
          obtain ⟨vs, g1, g2⟩ := hr.ok _ _ _ q g
          exact .inr ⟨_, _, rfl, g1, by rw [g2.length]; exact post_here p hr (.int _)⟩
        · exact p.elim
      | rl hs rs => exact .inl ⟨_, _, rfl, .inl ⟨_, hK ▸ hs.sq, rfl⟩, by rw [rs.length]; exact post_here p hr (.int _)⟩
      | _ => exact False.elim p⟩
theorem cs_list (hK : G.K = X.K) : CallS X G (.type "list") bList := ⟨_, call_list_of, fun ρ h H xs ds Q W hr r p => by
  cases r with
  | nil => exact False.elim p
  | cons a r' =>
    cases r' with
    | cons _ _ => cases a <;> exact False.elim p
    | nil =>
      have key : ∀ {v : V} {d : D}, RD G ρ H v d → Post G ρ H Q W (match listOf h d with | some xs => .ok (.ref h.length) (h ++ [.lst xs]) | none => .bad) → (∃ p ys, [v] = [V.ref p] ∧ (SqL X.K H p ys ∨ SqT X.K H p ys) ∧ ∀ l, H l = none → Q (.ref l) (upd H l (.lst ys))) := fun {v d} a p => by
        split at p
        · rename_i ys g
          obtain ⟨_, vs, e, g1, g2⟩ := list_ok hr a g
          exact ⟨_, _, congrArg (fun x => [x]) e, .inl (hK ▸ g1), fun l hl => post_lst p hr g2 hl⟩
        · exact p.elim
      cases a with
      | tup hs rs => exact ⟨_, _, rfl, .inr (hK ▸ hs), fun l hl => post_lst p hr rs hl⟩
      | ref q => exact key (.ref q) p
      | rl hs rs => exact key (.rl hs rs) p
      | _ => exact False.elim p⟩
theorem cs_tuple (hK : G.K = X.K) : CallS X G (.type "tuple") bTuple := ⟨_, call_tuple_of, fun ρ h H xs ds Q W hr r p => by
  cases r with
  | nil => exact False.elim p
  | cons a r' =>
    cases r' with
    | cons _ _ => cases a <;> exact False.elim p
    | nil =>
      have key : ∀ {v : V} {d : D}, RD G ρ H v d → Post G ρ H Q W (match listOf h d with | some xs => .ok (.tup xs) h | none => .bad) → (∃ p ys, [v] = [V.ref p] ∧ ((SqL X.K H p ys ∧ ∀ l, H l = none → Q (.ref l) (upd H l (.tup ys))) ∨ (SqT X.K H p ys ∧ Q (.ref p) H))) := fun {v d} a p => by
        split at p
        · rename_i ys g
          obtain ⟨_, vs, e, g1, g2⟩ := list_ok hr a g
          exact ⟨_, _, congrArg (fun x => [x]) e, .inl ⟨hK ▸ g1, fun l hl => post_tup p hr g2 hl⟩⟩
        · exact p.elim
      cases a with
      | tup hs rs => exact ⟨_, _, rfl, .inr ⟨hK ▸ hs, post_here p hr (.tup hs rs)⟩⟩
      | ref q => exact key (.ref q) p
      | rl hs rs => exact key (.rl hs rs) p
      | _ => exact False.elim p⟩
theorem cs_int : CallS X G (.type "int") bInt := ⟨_, call_int1, fun ρ h H xs ds Q W hr r p => by
  cases r with
  | nil => exact False.elim p
  | cons a r' =>
    cases r' with
    | cons _ _ => cases a <;> exact False.elim p
    | nil =>
      cases a with
      | int i => exact .inl ⟨_, rfl, post_here p hr (.int _)⟩
      | bl b => exact .inr ⟨_, rfl, post_here p hr (.int _)⟩
      | _ => exact False.elim p⟩
theorem cs_abs : CallS X G (.builtin "abs") bAbs := ⟨_, call_abs, fun ρ h H xs ds Q W hr r p => by
  cases r with
  | nil => exact False.elim p
  | cons a r' =>
    cases r' with
    | cons _ _ => cases a <;> exact False.elim p
    | nil =>
      cases a with
      | int i => exact ⟨_, rfl, post_here p hr (.int _)⟩
      | _ => exact False.elim p⟩
theorem ints_ok {ρ : List Addr} {H : Hp} : ∀ {vs : List V} {ds : List D} {is : List Int}, RDs G ρ H vs ds → intsOf ds = some is → vs = is.map V.int
  | _, _, _, .nil, e => by
    cases e
    rfl
  | _, _, is, .cons a r, e => by
    cases a with
    | int i =>
      simp only [intsOf] at e
      rw [Option.map_eq_some_iff] at e
      obtain ⟨js, e1, rfl⟩ := e
      rw [ints_ok r e1]
      rfl
    | _ => cases e
theorem bls_ok {ρ : List Addr} {H : Hp} : ∀ {vs : List V} {ds : List D} {is : List Bool}, RDs G ρ H vs ds → blsOf ds = some is → vs = is.map V.bl
  | _, _, _, .nil, e => by
    cases e
    rfl
  | _, _, is, .cons a r, e => by
    cases a with
    | bl i =>
      simp only [blsOf] at e
      rw [Option.map_eq_some_iff] at e
      obtain ⟨js, e1, rfl⟩ := e
      rw [bls_ok r e1]
      rfl
    | _ => cases e
theorem lst_arg {ρ : List Addr} {h : Hh} {H : Hp} {v : V} {d : D} {γ : Type} {f : List D → Option γ} {z : γ} (hr : HR G ρ h H) (r : RD G ρ H v d) (e : (listOf h d).bind f = some z) : ∃ a ds vs, v = .ref a ∧ SqL G.K H a vs ∧ RDs G ρ H vs ds ∧ f ds = some z := by
  cases g : listOf h d with
  | none => rw [g] at e; cases e
  | some ds =>
    rw [g] at e
    obtain ⟨a, vs, g0, g1, g2⟩ := list_ok hr r g
    exact ⟨a, ds, vs, g0, g1, g2, e⟩
theorem cs_sum (hK : G.K = X.K) (hc : X.calm = true) : CallS X G (.builtin "sum") bSum := ⟨_, cr_sum hc, fun ρ h H xs ds Q W hr r p => by
  cases r with
  | nil => exact False.elim p
  | cons a r' =>
    cases r' with
    | cons _ _ => exact False.elim p
    | nil =>
      simp only [bSum] at p
      split at p
      · rename_i is e
        obtain ⟨_, ds, vs, rfl, g1, g2, g3⟩ := lst_arg hr a e
        have z := ints_ok g2 g3
        subst z
        exact ⟨_, _, rfl, hK ▸ g1, post_here p hr (.int _)⟩
      · exact p.elim⟩
theorem cs_all (hK : G.K = X.K) (hc : X.calm = true) : CallS X G (.builtin "all") bAll := ⟨_, cr_all hc, fun ρ h H xs ds Q W hr r p => by
  cases r with
  | nil => exact False.elim p
  | cons a r' =>
    cases r' with
    | cons _ _ => exact False.elim p
    | nil =>
      simp only [bAll] at p
      split at p
      · rename_i is e
        obtain ⟨_, ds, vs, rfl, g1, g2, g3⟩ := lst_arg hr a e
        have z := bls_ok g2 g3
        subst z
        exact ⟨_, _, rfl, hK ▸ g1, post_here p hr (.bl _)⟩
      · exact p.elim⟩
theorem cs_any (hK : G.K = X.K) (hc : X.calm = true) : CallS X G (.builtin "any") bAny := ⟨_, cr_any hc, fun ρ h H xs ds Q W hr r p => by
  cases r with
  | nil => exact False.elim p
  | cons a r' =>
    cases r' with
    | cons _ _ => exact False.elim p
    | nil =>
      simp only [bAny] at p
      split at p
      · rename_i is e
        obtain ⟨_, ds, vs, rfl, g1, g2, g3⟩ := lst_arg hr a e
        have z := bls_ok g2 g3
        subst z
        exact ⟨_, _, rfl, hK ▸ g1, post_here p hr (.bl _)⟩
      · exact p.elim⟩
theorem cs_max2 (hc : X.calm = true) : CallS X G (.builtin "max") bMax2 := ⟨_, call_max2 hc, fun ρ h H xs ds Q W hr r p => by
  cases r with
  | nil => exact False.elim p
  | cons a r' =>
    cases r' with
    | nil => cases a <;> exact False.elim p
    | cons b r'' =>
      cases a <;> cases b <;> first
        | exact False.elim p
        | (cases r'' with
           | nil => exact ⟨_, _, rfl, post_here p hr (.int _)⟩
           | cons _ _ => exact False.elim p)⟩
theorem cs_min2 (hc : X.calm = true) : CallS X G (.builtin "min") bMin2 := ⟨_, call_min2 hc, fun ρ h H xs ds Q W hr r p => by
  cases r with
  | nil => exact False.elim p
  | cons a r' =>
    cases r' with
    | nil => cases a <;> exact False.elim p
    | cons b r'' =>
      cases a <;> cases b <;> first
        | exact False.elim p
        | (cases r'' with
           | nil => exact ⟨_, _, rfl, post_here p hr (.int _)⟩
           | cons _ _ => exact False.elim p)⟩
end

/-! ### isinstance -/
def Ty.nm : Ty → String
  | .int => "int" | .bool => "bool" | .str => "str" | .tuple => "tuple" | .list => "list" | .dict => "dict"
theorem kit_none (t : Ty) : kitB "NoneType" t.nm = some false := by cases t <;> decide +kernel
theorem kit_bool (t : Ty) : kitB "bool" t.nm = some (decide (t = .bool ∨ t = .int)) := by cases t <;> decide +kernel
theorem kit_int (t : Ty) : kitB "int" t.nm = some (decide (t = .int)) := by cases t <;> decide +kernel
theorem kit_str (t : Ty) : kitB "str" t.nm = some (decide (t = .str)) := by cases t <;> decide +kernel
theorem kit_tuple (t : Ty) : kitB "tuple" t.nm = some (decide (t = .tuple)) := by cases t <;> decide +kernel
theorem kit_list (t : Ty) : kitB "list" t.nm = some (decide (t = .list)) := by cases t <;> decide +kernel
theorem kit_dict (t : Ty) : kitB "dict" t.nm = some (decide (t = .dict)) := by cases t <;> decide +kernel
theorem tyx_tup {K : PySem.W.Frag} {H : Hp} {a : Addr} {xs : List V} (h : SqT K H a xs) : TyX K H (.ref a) (.type "tuple") := by
  rcases h with (h | ⟨u, h⟩) | ⟨o, its, n, h1, h2, _⟩
  · exact .base (.tup h)
  · exact .fTuple h
  · exact .kTuple h1 h2
theorem isA_ok {G : Gx} {ρ : List Addr} {h : Hh} {H : Hp} {v : V} {d : D} {t : Ty} {b : Bool} (hr : HR G ρ h H) (r : RD G ρ H v d) (e : isA h t d = some b) : ∃ T : Value, TyX G.K H v T ∧ PySem.W.kitOne G.K T (.type t.nm) = some b := by
  cases r with
  | non => cases e; exact ⟨_, .base .non, kit_ty (kit_none t)⟩
  | bl x => cases e; exact ⟨_, .base (.bl x), kit_ty (kit_bool t)⟩
  | int x => cases e; exact ⟨_, .base (.int x), kit_ty (kit_int t)⟩
  | str x => cases e; exact ⟨_, .base (.str x), kit_ty (kit_str t)⟩
  | tup hs _ => cases e; exact ⟨_, tyx_tup hs, kit_ty (kit_tuple t)⟩
  | ref q =>
    simp only [isA] at e
    split at e
    · rename_i xs g
      obtain ⟨vs, g1, _⟩ := hr.ok _ _ _ q g
      cases e
      exact ⟨_, .base (.lst g1), kit_ty (kit_list t)⟩
    · rename_i xs g
      obtain ⟨vs, g1, _⟩ := hr.ok _ _ _ q g
      cases e
      exact ⟨_, .base (.dK g1), kit_ty (kit_dict t)⟩
    · rename_i xs g
      obtain ⟨vs, g1, _⟩ := hr.ok _ _ _ q g
      cases e
      exact ⟨_, .base (.dT g1), kit_ty (kit_dict t)⟩
    · cases e
  | rl hs _ =>
    cases e
    rcases hs with ⟨u, z⟩ | ⟨o, its, n, z1, z2, _⟩
    · exact ⟨_, .base (.frz z), kit_ty (kit_list t)⟩
    · exact ⟨_, .kList z1 z2, kit_ty (kit_list t)⟩
  | cv n => cases e
theorem ie_isA {X : Cx} {G : Gx} {W : WX} {pos p p2 : Pos} {a : Expr} {da : Den} {x : Str} (t : Ty) (hK : G.K = X.K) (ha : PE X a (tI G W da)) (hm : X.mg "isinstance" = none) (hm2 : X.mg x = none) (hg : Gl X "isinstance" := by rfl) (hg2 : Gl X x := by rfl)
    (hv : bootBuiltins x = some (.type t.nm) := by decide +kernel) (hv2 : bootBuiltins "isinstance" = some (.builtin "isinstance") := by decide +kernel) (hn : x ≠ "__name__" := by decide) (hdb : (x == ("__debug__" : Str)) = false := by decide)
    (he : starEach [a, .Name x p2] X.env = (false, eval a X.env) :: starEach [.Name x p2] X.env := by rfl) (hpl : (backTo pos (starEach [.Name x p2] X.env)).any (·.1) = false := by rfl) :
    PE X (.Call (.Name "isinstance" p) [a, .Name x p2] [] pos) (tI G W (dIsA t da)) := by
  refine pe_imp (pe_callB call_isi hg hm hv2 (pa_cons ha (pa_cons (pe_bltn hg2 hm2 hv (v := .ty t.nm) rfl hn hdb) pa_nil) he) (by decide) (by decide) he hpl) fun σ H Q ⟨ρ, h, e, hr, er, p⟩ => ?_
  refine tI.intro hr er (Post.bind p) fun ρ1 h1 H1 x v l1 hr1 r1 p1 => ?_
  split at p1
  · rename_i b q
    obtain ⟨T, g1, g2⟩ := isA_ok hr1 r1 q
    exact ⟨_, _, T, _, b, rfl, .ty t.nm, hK ▸ g1, hK ▸ g2, post_here p1 hr1 (.bl b)⟩
  · exact p1.elim

/-! ### methods of lists -/
def MethS (X : Cx) (G : Gx) (id : String) (f : D → List D → Hh → Res D) : Prop := ∃ r : V → List V → Hp → VK → Prop, MtR X id r ∧
  ∀ ρ h H x dx xs ds (Q : VK) (W : XK), HR G ρ h H → RD G ρ H x dx → RDs G ρ H xs ds → Post G ρ H Q W (f dx ds h) → r x xs H Q
theorem isLst_ty {G : Gx} {ρ : List Addr} {h : Hh} {H : Hp} {v : V} {d : D} (hr : HR G ρ h H) (r : RD G ρ H v d) (e : isLst h d = true) : tyV G.K "list" v H := by
  unfold isLst at e
  obtain ⟨xs, g⟩ := Option.isSome_iff_exists.mp e
  obtain ⟨_, vs, rfl, g1, _⟩ := list_ok hr r g
  exact .inl ⟨rfl, vs, g1⟩
section
variable {X : Cx} {G : Gx} {W : WX} {apos cpos : Pos} {o e : Expr} {es : List Expr} {da : Den} {dr : ADen} {f : D → List D → Hh → Res D} {name : Str} {id : String}
theorem ie_bm (hK : G.K = X.K) (m : MethS X G id f) (slot : Slot "list" name id) (hty : typeOf (.builtin id) = pure (.type "method_descriptor")) (ho : PE X o (tI G W da)) (ha : PA X (e :: es) (tA G W dr))
    (hbase : attributeBase o name X.env (eval o X.env) = eval o X.env := by rfl)
    (hfew : ((backTo cpos (starEach (e :: es) X.env)).all (fun x => !x.1) && (backToKw cpos (keywordEach [] X.env)).all (fun x => x.1.isSome)
      && decide ((e :: es).length + ([] : List Keyword).length + (if ([] : List Keyword).isEmpty then 0 else 1) < 30)) = true := by rfl)
    (hline : (apos.endLine == cpos.line) = true := by rfl) (hs : starEach (e :: es) X.env = (false, eval e X.env) :: starEach es X.env := by rfl) (hplain : (backTo cpos (starEach es X.env)).any (·.1) = false := by rfl) :
    PE X (.Call (.Attribute o name apos) (e :: es) [] cpos) (tI G W (dMeth f da dr)) := by
  obtain ⟨r, h1, h2⟩ := m
  refine pe_imp (pe_bm PySem.F.plainAttrs_list slot hty h1 ho ha hbase hfew hline hs hplain) fun σ H Q ⟨ρ, h, e, hr, er, p⟩ => ?_
  refine tI.intro hr er (Post.bind p) fun ρ1 h1' H1 x v l1 hr1 r1 p1 => ?_
  split at p1
  · rename_i c
    refine ⟨hK ▸ isLst_ty hr1 r1 c, ?_⟩
    refine tA.intro hr1 (er.mono l1) (Post.bind p1) fun ρ2 h2' H2 xs vs l2 hr2 r2 p2 => ?_
    exact h2 ρ2 h2' H2 v x vs xs Q _ hr2 (r1.mono l2) r2 p2
  · exact p1.elim
theorem ie_bm0 (hK : G.K = X.K) (m : MethS X G id f) (slot : Slot "list" name id) (hty : typeOf (.builtin id) = pure (.type "method_descriptor")) (ho : PE X o (tI G W da))
    (hbase : attributeBase o name X.env (eval o X.env) = eval o X.env := by rfl) (hline : (apos.endLine == cpos.line) = true := by rfl) : PE X (.Call (.Attribute o name apos) [] [] cpos) (tI G W (dMeth f da aNil)) := by
  obtain ⟨r, h1, h2⟩ := m
  refine pe_imp (pe_bm0 PySem.F.plainAttrs_list slot hty h1 ho hbase hline) fun σ H Q ⟨ρ, h, e, hr, er, p⟩ => ?_
  refine tI.intro hr er (Post.bind p) fun ρ1 h1' H1 x v l1 hr1 r1 p1 => ?_
  split at p1
  · rename_i c
    exact ⟨hK ▸ isLst_ty hr1 r1 c, h2 ρ1 h1' H1 v x [] [] Q _ hr1 r1 .nil p1⟩
  · exact p1.elim
theorem ms_append : MethS X G "list.append" mAppend := ⟨_, mt_append, fun ρ h H x dx xs ds Q W hr rx r p => by
  cases rx with
  | ref q =>
    cases r with
    | nil => exact False.elim p
    | cons a r' =>
      cases r' with
      | cons _ _ => exact False.elim p
      | nil =>
        simp only [mAppend] at p
        split at p
        · rename_i ys g
          obtain ⟨vs, g1, g2⟩ := lst_of hr q g
          split at p
          · rename_i c
            rw [SLe, ← g2.length] at c
            exact ⟨_, vs, _, rfl, rfl, g1, c, post_set p hr q g g1 (g2.append (.one a)) .non⟩
          · exact p.elim
        · exact p.elim
  | _ => exact False.elim p⟩
theorem ms_extend : MethS X G "list.extend" mExtend := ⟨_, mt_extend, fun ρ h H x dx xs ds Q W hr rx r p => by
  cases rx with
  | ref q =>
    cases r with
    | nil => exact False.elim p
    | cons a r' =>
      cases r' with
      | cons _ _ => cases a <;> exact False.elim p
      | nil =>
        cases a with
        | ref q2 =>
          simp only [mExtend] at p
          split at p
          · rename_i ys zs g k
            obtain ⟨vs, g1, g2⟩ := lst_of hr q g
            obtain ⟨ws, k1, k2⟩ := lst_of hr q2 k
            split at p
            · rename_i c
              rw [SLe, ← g2.length, ← k2.length] at c
              exact ⟨_, _, vs, ws, rfl, rfl, g1, k1, c, post_set p hr q g g1 (g2.append k2) .non⟩
            · exact p.elim
          · exact p.elim
        | _ => exact False.elim p
  | _ => exact False.elim p⟩
theorem ms_pop : MethS X G "list.pop" mPop := ⟨_, mt_pop, fun ρ h H x dx xs ds Q W hr rx r p => by
  cases rx with
  | ref q =>
    cases r with
    | cons _ _ => exact False.elim p
    | nil =>
      simp only [mPop] at p
      split at p
      · rename_i ys g
        obtain ⟨vs, g1, g2⟩ := lst_of hr q g
        split at p
        · rename_i d e
          rw [List.getLast?_eq_getElem?] at e
          obtain ⟨v, e1, e2⟩ := g2.get e
          rw [← g2.length] at e1
          exact ⟨_, vs, v, rfl, rfl, g1, e1, post_set p hr q g g1 g2.dropLast e2⟩
        · exact p.elim
      · exact p.elim
  | _ => exact False.elim p⟩
theorem ms_popAt : MethS X G "list.pop" mPopAt := ⟨_, mt_popAt, fun ρ h H x dx xs ds Q W hr rx r p => by
  cases rx with
  | ref q =>
    cases r with
    | nil => exact False.elim p
    | cons a r' =>
      cases r' with
      | cons _ _ => cases a <;> exact False.elim p
      | nil =>
        cases a with
        | int i =>
          simp only [mPopAt] at p
          split at p
          · rename_i ys g
            obtain ⟨vs, g1, g2⟩ := lst_of hr q g
            split at p
            · rename_i c
              split at p
              · rename_i k e
                split at p
                · rename_i d e2
                  obtain ⟨v, e3, e4⟩ := g2.get e2
                  rw [← g2.length, ixOf_eq] at e
                  obtain ⟨f1, f2, f3, f4⟩ := ixN_seq e
                  have c1 := c.1
                  have c2 := c.2
                  exact ⟨_, vs, i, k, v, rfl, rfl, g1, by omega, by omega, f1, e3, post_set p hr q g g1 (g2.eraseIdx k) e4⟩
                · exact p.elim
              · exact p.elim
            · exact p.elim
          · exact p.elim
        | _ => exact False.elim p
  | _ => exact False.elim p⟩
end
end PI
/-! ## Pi5 -/
set_option Elab.async false
set_option linter.all false
set_option maxRecDepth 100000
set_option maxHeartbeats 1000000
set_option autoImplicit false
/-! PI, part 5: targets, statements, what is walked, for, while. -/
namespace PI
open PySem L2
/-! ### statements' readings -/
def FlOk (G : Gx) (ρ : List Addr) (H : Hp) (D : Ends) (W : WX) : Fl → Prop
  | .nx e => ∀ σ, ER G ρ H σ e → D.nx σ H
  | .rt d => ∀ v, RD G ρ H v d → D.rt v H
  | .bk e => ∀ σ, ER G ρ H σ e → D.bk σ H
  | .ct e => ∀ σ, ER G ρ H σ e → D.ct σ H
  | .xc c fs e => ∀ σ dd, ER G ρ H σ e → XR G ρ H dd fs → W (G.cm c) dd σ H
def PostS (G : Gx) (ρ : List Addr) (H : Hp) (D : Ends) (W : WX) : Res Fl → Prop
  | .bad => False
  | .exc _ _ _ => False
  | .ok f h => ∀ ρ' H', Le G ρ H ρ' H' → HR G ρ' h H' → FlOk G ρ' H' D W f
section
variable {α : Type} {G : Gx} {ρ ρ' : List Addr} {H H' : Hp} {W : WX} {D : Ends} {e : En} {σ : L2.St}
theorem PostS.le {r : Res Fl} (l : Le G ρ H ρ' H') (p : PostS G ρ H D W r) : PostS G ρ' H' D W r := by
  cases r with
  | bad => exact p
  | ok d h => exact fun ρ2 H2 l2 => p ρ2 H2 (l.trans l2)
  | exc c fs h => exact p
theorem PostS.sb {r : Res α} {k : α → Hh → Res Fl} (er : ER G ρ H σ e) (p : PostS G ρ H D W (r.sb e k)) : PostG G ρ H (fun ρ' h' H' a => PostS G ρ' H' D W (k a h')) (fun c d H' => W c d σ H') r := by
  cases r with
  | bad => exact p
  | ok a h => exact fun ρ' H' l _ => PostS.le l p
  | exc c fs h => exact fun ρ' dd H' l hr x => p ρ' H' l hr σ dd (er.mono l) x
theorem PostS.bind {r : Res Fl} {k : Fl → Hh → Res Fl} (p : PostS G ρ H D W (r.bind k)) : ∃ f h, r = .ok f h ∧ PostS G ρ H D W (k f h) := by
  cases r with
  | bad => exact p.elim
  | ok a h => exact ⟨a, h, rfl, p⟩
  | exc c fs h => exact p.elim
end
def tS (G : Gx) (W : WX) (s : SDen) : TS := fun D σ H => ∃ ρ h e, HR G ρ h H ∧ ER G ρ H σ e ∧ PostS G ρ H D W (s e h)
theorem ps_imp {X : Cx} {st : Stmt} {t t' : TS} (p : PS X st t) (h : ∀ D σ H, t' D σ H → t D σ H) : PS X st t' := ⟨fun pins s σ H D I q => p.run pins s σ H D I (h D σ H q)⟩
theorem pss_imp {X : Cx} {st : List Stmt} {t t' : TS} (p : PSs X st t) (h : ∀ D σ H, t' D σ H → t D σ H) : PSs X st t' := ⟨fun pins s σ H D I q => p.run pins s σ H D I (h D σ H q)⟩
section
variable {X : Cx} {G : Gx} {W : WX} {pos : Pos} {a c : Expr} {da : Den} {tc : TDen} {st : Stmt} {rest bd el : List Stmt} {s u : SDen}
theorem iss_nil : PSs X [] (tS G W sNil) := pss_imp pss_nil fun D σ H ⟨ρ, h, e, hr, er, p⟩ => p ρ H Le.refl hr σ er
theorem iss_one (hs : PS X st (tS G W s)) : PSs X [st] (tS G W s) := pss_one hs
theorem iss_cons (hs : PS X st (tS G W s)) (hu : PSs X rest (tS G W u)) : PSs X (st :: rest) (tS G W (sSeq s u)) := by
  refine pss_imp (pss_cons hs hu) fun D σ H ⟨ρ, h, e, hr, er, p⟩ => ⟨ρ, h, e, hr, er, ?_⟩
  obtain ⟨f, h1, q, p1⟩ := PostS.bind p
  rw [q]
  intro ρ1 H1 l1 hr1
  have p2 := PostS.le l1 p1
  cases f with
  | nx e1 => exact fun σ1 er1 => ⟨ρ1, h1, e1, hr1, er1, p2⟩
  | rt d => exact p2 ρ1 H1 Le.refl hr1
  | bk e1 => exact p2 ρ1 H1 Le.refl hr1
  | ct e1 => exact p2 ρ1 H1 Le.refl hr1
  | xc c fs e1 => exact p2 ρ1 H1 Le.refl hr1
theorem is_pass : PS X (.Pass pos) (tS G W sNil) := ps_imp ps_pass fun D σ H ⟨ρ, h, e, hr, er, p⟩ => p ρ H Le.refl hr σ er
theorem is_break : PS X (.Break pos) (tS G W sBreak) := ps_imp ps_break fun D σ H ⟨ρ, h, e, hr, er, p⟩ => p ρ H Le.refl hr σ er
theorem is_cont : PS X (.Continue pos) (tS G W sCont) := ps_imp ps_continue fun D σ H ⟨ρ, h, e, hr, er, p⟩ => p ρ H Le.refl hr σ er
theorem is_expr (ha : PE X a (tI G W da)) (hs : swapsWith a none pos.line X.env = pure false := by rfl) : PS X (.Expr a pos) (tS G W (sExpr da)) := by
  refine ps_imp (ps_expr ha hs) fun D σ H ⟨ρ, h, e, hr, er, p⟩ => ?_
  exact tI.intro hr er (PostS.sb er p) fun ρ1 h1 H1 x v l1 hr1 r1 p1 => p1 ρ1 H1 Le.refl hr1 σ (er.mono l1)
theorem is_ret (ha : PE X a (tI G W da)) : PS X (.Return (some a) pos) (tS G W (sRet da)) := by
  refine ps_imp (ps_ret ha) fun D σ H ⟨ρ, h, e, hr, er, p⟩ => ?_
  exact tI.intro hr er (PostS.sb er p) fun ρ1 h1 H1 x v l1 hr1 r1 p1 => p1 ρ1 H1 Le.refl hr1 v r1
theorem is_retN : PS X (.Return none pos) (tS G W sRetN) := ps_imp ps_retN fun D σ H ⟨ρ, h, e, hr, er, p⟩ => p ρ H Le.refl hr .non .non
theorem is_if (hc : PT X c (tB' G W tc)) (ha : PSs X bd (tS G W s)) (hb : PSs X el (tS G W u)) : PS X (.If c bd el pos) (tS G W (sIf tc s u)) := by
  refine ps_imp (ps_if hc ha hb) fun D σ H ⟨ρ, h, e, hr, er, p⟩ => ?_
  refine tB'.intro hr er (PostS.sb er p) fun ρ1 h1 H1 k l1 hr1 p1 => ?_
  cases k with
  | true => exact iteT ⟨ρ1, h1, e, hr1, er.mono l1, p1⟩
  | false => exact iteF ⟨ρ1, h1, e, hr1, er.mono l1, p1⟩
end

/-! ### targets -/
def PostE (G : Gx) (ρ : List Addr) (H : Hp) (Q : L2.St → Hp → Prop) (W : XK) : Res En → Prop
  | .bad => False
  | .ok e h => ∀ ρ' H' σ, Le G ρ H ρ' H' → HR G ρ' h H' → ER G ρ' H' σ e → Q σ H'
  | .exc c fs h => ∀ ρ' dd H', Le G ρ H ρ' H' → HR G ρ' h H' → XR G ρ' H' dd fs → W (G.cm c) dd H'
def tG (G : Gx) (W : WX) (g : GDen) : TG := fun v σ H Q => ∃ ρ h e d, HR G ρ h H ∧ ER G ρ H σ e ∧ RD G ρ H v d ∧ PostE G ρ H Q (fun c d H' => W c d σ H') (g d e h)
def tGs (G : Gx) (W : WX) (g : GsDen) : TGs := fun vs σ H Q => ∃ ρ h e ds, HR G ρ h H ∧ ER G ρ H σ e ∧ RDs G ρ H vs ds ∧ PostE G ρ H Q (fun c d H' => W c d σ H') (g ds e h)
theorem pg_imp {X : Cx} {e : Expr} {t t' : TG} (p : PG X e t) (h : ∀ v σ H Q, t' v σ H Q → t v σ H Q) : PG X e t' := ⟨fun pins s σ H v u Q I r q => p.run pins s σ H v u Q I r (h v σ H Q q)⟩
theorem pgs_imp {X : Cx} {es : List Expr} {t t' : TGs} (p : PGs X es t) (h : ∀ v σ H Q, t' v σ H Q → t v σ H Q) : PGs X es t' := ⟨fun pins s σ H v u Q I r q => p.run pins s σ H v u Q I r (h v σ H Q q)⟩
/-- no exception comes of storing names -/
def Calm (g : GDen) : Prop := ∀ d e h c fs h', g d e h ≠ .exc c fs h'
section
variable {X : Cx} {G : Gx} {W : WX} {pos : Pos} {a b : Expr} {es : List Expr} {da db : Den} {g : GDen} {gs : GsDen}
theorem PostE.le {ρ ρ' : List Addr} {H H' : Hp} {Q : L2.St → Hp → Prop} {W : XK} {r : Res En} (l : Le G ρ H ρ' H') (p : PostE G ρ H Q W r) : PostE G ρ' H' Q W r := by
  cases r with
  | bad => exact p
  | ok d h => exact fun ρ2 H2 σ l2 => p ρ2 H2 σ (l.trans l2)
  | exc c fs h => exact fun ρ2 dd H2 l2 => p ρ2 dd H2 (l.trans l2)
theorem ig_name (i : Nat) {x : Str} (hN : X.N.Nodup) (hi : X.N[i]? = some x := by rfl) (hx : Loc X.env.scope x := by first | exact Or.inl rfl | exact Or.inr rfl) (hf : X.fn x = true ∨ X.env.scope.names.lookup x = some .local := by first | exact .inl rfl | exact .inr rfl) :
    PG X (.Name x pos) (tG G W (gNm i)) :=
  pg_imp (pg_name hN hi hx hf) fun v σ H Q ⟨ρ, h, e, d, hr, er, r, p⟩ => p ρ H _ Le.refl hr (er.set r)
theorem igs_nil : PGs X [] (tGs G W gsNil) := pgs_imp pgs_nil fun vs σ H Q ⟨ρ, h, e, ds, hr, er, r, p⟩ => by
  cases r with
  | nil => exact ⟨rfl, p ρ H σ Le.refl hr er⟩
  | cons _ _ => exact False.elim p
/-- names alone: the exceptions are none, so the slots don't matter -/
theorem igs_cons (i : Nat) {x : Str} {p : Pos} (h1 : PG X (.Name x p) (tG G W (gNm i))) (h2 : PGs X es (tGs G W gs)) (hc : ∀ ds e h c fs h', gs ds e h ≠ .exc c fs h')
    (hs : (assignEach (.Name x p :: es) X.env).map (·.2) = assign (.Name x p) X.env :: (assignEach es X.env).map (·.2) := by rfl) : PGs X (.Name x p :: es) (tGs G W (gsCons (gNm i) gs)) := by
  refine pgs_imp (pgs_cons h1 h2 hs) fun vs σ H Q ⟨ρ, h, e, ds, hr, er, r, p⟩ => ?_
  cases r with
  | nil => exact False.elim p
  | @cons v vs d ds r1 r2 =>
    refine ⟨v, vs, rfl, ρ, h, e, d, hr, er, r1, ?_⟩
    have p : PostE G ρ H Q (fun c d H' => W c d σ H') (gs ds (e.set i (some d)) h) := p
    intro ρ1 H1 σ1 l1 hr1 er1
    refine ⟨ρ1, h, _, ds, hr1, er1, r2.mono l1, ?_⟩
    have p1 := PostE.le l1 p
    cases q : gs ds (e.set i (some d)) h with
    | bad => rw [q] at p1; exact p1
    | ok e2 h2 => rw [q] at p1; exact p1
    | exc c fs h2 => exact absurd q (hc _ _ _ _ _ _)
/-- any target ahead that raises nothing -/
theorem igs_consG {t : Expr} (h1 : PG X t (tG G W g)) (h2 : PGs X es (tGs G W gs)) (hg : Calm g) (hc : ∀ ds e h c fs h', gs ds e h ≠ .exc c fs h')
    (hs : (assignEach (t :: es) X.env).map (·.2) = assign t X.env :: (assignEach es X.env).map (·.2) := by rfl) : PGs X (t :: es) (tGs G W (gsCons g gs)) := by
  refine pgs_imp (pgs_cons h1 h2 hs) fun vs σ H Q ⟨ρ, h, e, ds, hr, er, r, p⟩ => ?_
  cases r with
  | nil => exact False.elim p
  | @cons v vs d ds r1 r2 =>
    refine ⟨v, vs, rfl, ρ, h, e, d, hr, er, r1, ?_⟩
    have p : PostE G ρ H Q (fun c d H' => W c d σ H') ((g d e h).bind fun e1 h1 => gs ds e1 h1) := p
    cases q : g d e h with
    | bad => rw [q] at p; exact p.elim
    | exc c fs h2 => exact absurd q (hg _ _ _ _ _ _)
    | ok e1 h1 =>
      rw [q] at p
      intro ρ1 H1 σ1 l1 hr1 er1
      refine ⟨ρ1, h1, e1, ds, hr1, er1, r2.mono l1, ?_⟩
      have p1 := PostE.le l1 p
      cases q2 : gs ds e1 h1 with
      | bad => rw [show (Res.ok e1 h1).bind (fun e1 h1 => gs ds e1 h1) = gs ds e1 h1 from rfl, q2] at p1; exact p1
      | ok e2 h2 => rw [show (Res.ok e1 h1).bind (fun e1 h1 => gs ds e1 h1) = gs ds e1 h1 from rfl, q2] at p1; exact p1
      | exc c fs h2 => exact absurd q2 (hc _ _ _ _ _ _)
theorem calm_name {i : Nat} : Calm (gNm i) := fun d e h c fs h' q => nomatch q
theorem calm_tup {n : Nat} (hc : ∀ ds e h c fs h', gs ds e h ≠ .exc c fs h') : Calm (gTp n gs) := fun d e h c fs h' => by
  cases d with
  | tup ds =>
    show (if ds.length = n then gs ds e h else .bad) ≠ _
    split
    · exact hc _ _ _ _ _ _
    · exact fun q => nomatch q
  | _ => exact fun q => nomatch q
theorem calm_consG (hg : Calm g) (hc : ∀ ds e h c fs h', gs ds e h ≠ .exc c fs h') : ∀ ds e h c fs h', gsCons g gs ds e h ≠ .exc c fs h' := fun ds e h c fs h' => by
  cases ds with
  | nil => exact fun q => nomatch q
  | cons d ds =>
    show (g d e h).bind _ ≠ _
    cases q : g d e h with
    | bad => exact fun q => nomatch q
    | exc _ _ _ => exact absurd q (hg _ _ _ _ _ _)
    | ok e1 h1 => exact hc _ _ _ _ _ _
theorem calm_nil : ∀ ds e h c fs h', gsNil ds e h ≠ .exc c fs h' := fun ds e h c fs h' => by
  cases ds <;> exact fun q => nomatch q
theorem calm_cons {i : Nat} (hc : ∀ ds e h c fs h', gs ds e h ≠ .exc c fs h') : ∀ ds e h c fs h', gsCons (gNm i) gs ds e h ≠ .exc c fs h' := fun ds e h c fs h' => by
  cases ds with
  | nil => exact fun q => nomatch q
  | cons d ds => exact hc _ _ _ _ _ _
theorem ig_tup {k : Nat} (n : Nat) (hK : G.K = X.K) (hc : X.calm = true) (hg : PGs X es (tGs G W gs)) (hn : (assignEach es X.env).length = n := by rfl) (hst : (assignEach es X.env).findIdx? (·.1) = none := by rfl) : PG X (.Tuple es k pos) (tG G W (gTp n gs)) := by
  refine pg_imp (pg_tup hc hg hn hst) fun v σ H Q ⟨ρ, h, e, d, hr, er, r, p⟩ => ?_
  cases r with
  | tup hs rs =>
    simp only [gTp] at p
    split at p
    · rename_i c
      exact ⟨_, _, rfl, hK ▸ hs, by rw [rs.length]; exact c, ρ, h, e, _, hr, er, rs, p⟩
    · exact p.elim
  | _ => exact False.elim p
/-- xs[i] = .. -/
theorem ig_sub (ha : PE X a (tI G W da)) (hb : PE X b (tI G W db)) (hs : ∀ v, assign (.Subscript a b pos) X.env v = (do
      let ov ← holding [v] (eval a X.env)
      let iv ← holding [v, ov] (eval b X.env)
      standAt pos
      holding [v, ov, iv] (setItem ov iv v)
      release [v, ov, iv] []) := by intro _; rfl) : PG X (.Subscript a b pos) (tG G W (gSb da db)) := by
  refine pg_imp (pg_sub ha hb set_list hs) fun v σ H Q ⟨ρ, h, e, d, hr, er, r, p⟩ => ?_
  unfold gSb at p
  have p' : PostG G ρ H (fun ρ' h' H' x => PostE G ρ' H' Q (fun c d H' => W c d σ H') ((db e h').bind fun y h2 => (setAt x y d h2).bind fun _ h3 => .ok e h3)) (fun c d H' => W c d σ H') (da e h) := by
    cases q : da e h with
    | bad => rw [q] at p; exact p
    | ok x h1 => rw [q] at p; exact fun ρ' H' l _ => PostE.le l p
    | exc c fs h1 => rw [q] at p; exact p
  refine tI.intro hr er p' fun ρ1 h1 H1 x vx l1 hr1 r1 p1 => ?_
  have p1' : PostG G ρ1 H1 (fun ρ' h' H' y => PostE G ρ' H' Q (fun c d H' => W c d σ H') ((setAt x y d h').bind fun _ h3 => .ok e h3)) (fun c d H' => W c d σ H') (db e h1) := by
    cases q : db e h1 with
    | bad => rw [q] at p1; exact p1
    | ok x h1 => rw [q] at p1; exact fun ρ' H' l _ => PostE.le l p1
    | exc c fs h1 => rw [q] at p1; exact p1
  refine tI.intro hr1 (er.mono l1) p1' fun ρ2 h2 H2 y vy l2 hr2 r2 p2 => ?_
  have r1' := r1.mono l2
  cases r1' <;> first
    | exact False.elim p2
    | skip
  cases r2 <;> first
    | exact False.elim p2
    | skip
  rename_i o n q k
  simp only [setAt] at p2
  split at p2
  · rename_i xs g
    obtain ⟨vs, g1, g2⟩ := lst_of hr2 q g
    split at p2
    · rename_i j e2
      rw [← g2.length, ixOf_eq] at e2
      have rd := (r.mono l1).mono l2
      refine ⟨_, vs, k, j, rfl, rfl, g1, e2, ?_⟩
      have lt := Le.set (G := G) (ho := .lst (vs.set j v)) (List.mem_of_getElem? q) g1 rfl
      exact p2 ρ2 _ σ lt (hr2.set q g g1 rfl ⟨_, upd_same, (RDs.set rd j g2).mono lt⟩) (((er.mono l1).mono l2).mono lt)
    · exact p2.elim
  · exact p2.elim
/-- target = value -/
theorem is_asg {tg : Expr} (ha : PE X a (tI G W da)) (hg : PG X tg (tG G W g)) (hs : swapsWithSole [tg] a pos.line X.env = pure false := by rfl) (hw : swappedStores [tg] a X.env = pure none := by rfl)
    (h1 : (assignEach [tg] X.env).map (·.2) = [assign tg X.env] := by rfl) : PS X (.Assign [tg] a pos) (tS G W (sAsg da g)) := by
  refine ps_imp (ps_asg ha hg hs hw h1) fun D σ H ⟨ρ, h, e, hr, er, p⟩ => ?_
  refine tI.intro hr er (PostS.sb er p) fun ρ1 h1 H1 x v l1 hr1 r1 p1 => ⟨ρ1, h1, e, x, hr1, er.mono l1, r1, ?_⟩
  cases q : g x e h1 with
  | bad => rw [q] at p1; exact p1
  | ok e2 h2 => rw [q] at p1; exact fun ρ' H' σ' l' hr' er' => p1 ρ' H' l' hr' σ' er'
  | exc c fs h2 => rw [q] at p1; exact fun ρ' dd H' l' hr' x => p1 ρ' H' l' hr' σ dd ((er.mono l1).mono l') x
/-- name = value -/
theorem is_set (i : Nat) {x : Str} {pos' : Pos} (hN : X.N.Nodup) (ha : PE X a (tI G W da)) (hi : X.N[i]? = some x := by rfl) (hx : Loc X.env.scope x := by first | exact Or.inl rfl | exact Or.inr rfl) (hs : swapsWith a (some (.Name x pos')) pos.line X.env = pure false := by rfl)
    (hf : X.fn x = true ∨ X.env.scope.names.lookup x = some .local := by first | exact .inl rfl | exact .inr rfl) : PS X (.Assign [.Name x pos'] a pos) (tS G W (sAsg da (gNm i))) := by
  refine ps_imp (ps_set hN hi hx ha hs hf) fun D σ H ⟨ρ, h, e, hr, er, p⟩ => ?_
  exact tI.intro hr er (PostS.sb er p) fun ρ1 h1 H1 x v l1 hr1 r1 p1 => p1 ρ1 H1 Le.refl hr1 _ ((er.mono l1).set r1)
/-- a, b = x, y -/
theorem is_par (i j : Nat) {x y : Str} {px py pt : Pos} {kt k2 : Nat} {pt2 : Pos} (hc : X.calm = true) (hN : X.N.Nodup) (ha : PE X a (tI G W da)) (hb : PE X b (tI G W db)) (hi : X.N[i]? = some x := by rfl) (hj : X.N[j]? = some y := by rfl) (hij : i ≠ j := by decide)
    (hx : X.env.scope.names.lookup x = some .local := by rfl) (hy : X.env.scope.names.lookup y = some .local := by rfl) (hst : starEach [a, b] X.env = (false, eval a X.env) :: starEach [b] X.env := by rfl) (hst2 : starEach [b] X.env = (false, eval b X.env) :: starEach [] X.env := by rfl)
    (hw : swappedStores [.Tuple [.Name x px, .Name y py] kt pt] (.Tuple [a, b] k2 pt2) X.env = pure (some [x, y]) := by rfl)
    (hs : swapsWithSole [.Tuple [.Name x px, .Name y py] kt pt] (.Tuple [a, b] k2 pt2) pos.line X.env = pure false := by rfl) :
    PS X (.Assign [.Tuple [.Name x px, .Name y py] kt pt] (.Tuple [a, b] k2 pt2) pos) (tS G W (sPar i j da db)) := by
  refine ps_imp (ps_par hc hN hi hj hij hx hy (pa_cons ha (pa_cons hb pa_nil hst2) hst) hw hs) fun D σ H ⟨ρ, h, e, hr, er, p⟩ => ?_
  refine tI.intro hr er (PostS.sb er p) fun ρ1 h1 H1 d v l1 hr1 r1 p1 => ?_
  refine tI.intro hr1 (er.mono l1) (PostS.sb (er.mono l1) p1) fun ρ2 h2 H2 d2 w l2 hr2 r2 p2 => ?_
  exact ⟨v, w, rfl, p2 ρ2 H2 Le.refl hr2 _ ((((er.mono l1).mono l2).set (r1.mono l2)).set r2)⟩
/-- x op= a, by what the operator does in place -/
def IpS (X : Cx) (G : Gx) (op : Operator) (f : D → D → Hh → Res D) : Prop := ∃ r : TIp, PIp X op r ∧
  ∀ ρ h H x y dx dy (Q : VK) (W : XK), HR G ρ h H → RD G ρ H x dx → RD G ρ H y dy → Post G ρ H Q W (f dx dy h) → r x y H Q
theorem ip_sub' : IpS X G .Sub oSub := ⟨_, ip_sub, fun ρ h H x y dx dy Q W hr rx ry p => by
  cases rx <;> cases ry <;> first
    | exact False.elim p
    | exact ⟨_, _, rfl, rfl, post_here p hr (.int _)⟩⟩
theorem ip_add' : IpS X G .Add oIadd := ⟨_, (fun pins s σ H x y v u Q I rx ry q => (iop_add.or (iop_add_str.or iop_ext)) pins s σ H x y v u Q I rx ry q), fun ρ h H x y dx dy Q W hr rx ry p => by
  cases rx <;> cases ry <;> first
    | exact False.elim p
    | exact .inl ⟨_, _, rfl, rfl, post_here p hr (.int _)⟩
    | skip
  · rename_i a b
    simp only [oIadd] at p
    split at p
    · rename_i c
      rw [SLe] at c
      exact .inr (.inl ⟨a, b, rfl, rfl, by rw [len_str, len_str]; exact c, post_here p hr (rd_str (TL.tl_append a b))⟩)
    · exact p.elim
  · rename_i a m ea b n eb
    simp only [oIadd] at p
    split at p
    · rename_i xs ys q1 q2
      obtain ⟨vs, h1, r1⟩ := lst_of hr ea q1
      obtain ⟨ws, h2, r2⟩ := lst_of hr eb q2
      split at p
      · rename_i c
        rw [SLe, ← r1.length, ← r2.length] at c
        exact .inr (.inr ⟨a, b, vs, ws, rfl, rfl, h1, h2, c, post_set p hr ea q1 h1 (r1.append r2) (.ref ea)⟩)
      · exact p.elim
    · exact p.elim⟩
theorem is_aug (i : Nat) {x : Str} {op : Operator} {f : D → D → Hh → Res D} {pos' : Pos} (o : IpS X G op f) (hN : X.N.Nodup) (ha : PE X a (tI G W da)) (hi : X.N[i]? = some x := by rfl) (hx : Loc X.env.scope x := by first | exact Or.inl rfl | exact Or.inr rfl)
    (hf : X.fn x = true ∨ X.env.scope.names.lookup x = some .local := by first | exact .inl rfl | exact .inr rfl) : PS X (.AugAssign (.Name x pos') op a pos) (tS G W (sAug i f da)) := by
  obtain ⟨r, h1, h2⟩ := o
  refine ps_imp (ps_aug hN hi hx ha h1 hf) fun D σ H ⟨ρ, h, e, hr, er, p⟩ => ?_
  simp only [sAug] at p
  split at p
  · rename_i d q
    obtain ⟨v, g1, g2⟩ := er.at_ i d q
    refine ⟨v, g1, ?_⟩
    refine tI.intro hr er (PostS.sb er p) fun ρ1 h1' H1 y w l1 hr1 r1 p1 => ?_
    have p1' := PostS.sb (er.mono l1) p1
    refine h2 ρ1 h1' H1 v w d y _ (fun c d H' => W c d σ H') hr1 (g2.mono l1) r1 ?_
    cases q2 : f d y h1' with
    | bad => rw [q2] at p1'; exact p1'
    | ok z h2' => rw [q2] at p1'; exact fun ρ2 z' H2 l2 hr2 r2 => p1' ρ2 H2 l2 hr2 ρ2 H2 Le.refl hr2 _ (((er.mono l1).mono l2).set r2)
    | exc c fs h2' => rw [q2] at p1'; exact p1'
  · exact p.elim
end

/-! ### what is walked -/
/-- J gives k's items, one after the other, while k stands still -/
def ItOk (G : Gx) (ρ0 : List Addr) (H0 : Hp) (k : Wk) (J : It) : Prop := ∀ ρ h H, Le G ρ0 H0 ρ H → HR G ρ h H → k.still h = true → ∀ i : Nat,
  (∀ d, k.items[i]? = some d → J.go i H ∧ ∀ x H', J.yld i H x H' → ∃ ρ', Le G ρ H ρ' H' ∧ HR G ρ' h H' ∧ RD G ρ' H' x d) ∧ (k.items.length ≤ i → J.stop i H)
def PostW (G : Gx) (ρ : List Addr) (H : Hp) (R : It → Hp → Prop) (W : XK) : Res Wk → Prop
  | .bad => False
  | .ok k h => ∀ ρ' H' J, Le G ρ H ρ' H' → HR G ρ' h H' → ItOk G ρ' H' k J → R J H'
  | .exc c fs h => ∀ ρ' dd H', Le G ρ H ρ' H' → HR G ρ' h H' → XR G ρ' H' dd fs → W (G.cm c) dd H'
def tW (G : Gx) (W : WX) (w : WDen) : TI := fun σ H R => ∃ ρ h e, HR G ρ h H ∧ ER G ρ H σ e ∧ PostW G ρ H R (fun c d H' => W c d σ H') (w e h)
theorem pi_imp {X : Cx} {tg e : Expr} {t t' : TI} (p : PI X tg e t) (h : ∀ σ H R, t' σ H R → t σ H R) : PI X tg e t' := ⟨fun pins s σ H R I q => p.run pins s σ H R I (h σ H R q)⟩
theorem PostW.le {G : Gx} {ρ ρ' : List Addr} {H H' : Hp} {R : It → Hp → Prop} {W : XK} {r : Res Wk} (l : Le G ρ H ρ' H') (p : PostW G ρ H R W r) : PostW G ρ' H' R W r := by
  cases r with
  | bad => exact p
  | ok d h => exact fun ρ2 H2 J l2 => p ρ2 H2 J (l.trans l2)
  | exc c fs h => exact fun ρ2 dd H2 l2 => p ρ2 dd H2 (l.trans l2)
theorem PostW.bind {α : Type} {G : Gx} {ρ : List Addr} {H : Hp} {R : It → Hp → Prop} {W : XK} {r : Res α} {k : α → Hh → Res Wk} (p : PostW G ρ H R W (r.bind k)) : PostG G ρ H (fun ρ' h' H' a => PostW G ρ' H' R W (k a h')) W r := by
  cases r with
  | bad => exact p
  | ok a h => exact fun ρ' H' l _ => PostW.le l p
  | exc c fs h => exact p
/-- a list or a tuple, whichever comes -/
def iSeq (K : PySem.W.Frag) (tl : TE) : TI := fun σ H R => tl σ H fun x H1 => ∃ a, x = .ref a ∧ (((∃ xs, SqL K H1 a xs) ∧ R (Itl K a) H1) ∨ ((∃ xs, SqT K H1 a xs) ∧ R (Itt K a) H1))
open PySem.Spec PyProof.Rows in
theorem pi_seq {X : Cx} {tg l : Expr} {tl : TE} (hl : PE X l tl) : PI X tg l (iSeq X.K tl) := by
  refine ⟨fun pins s σ H R I h => ?_⟩
  refine thn (hl.run pins s σ H _ I h) fun v s1 ⟨x, H1, I1, r1, q1⟩ => ?_
  obtain ⟨a, e, q⟩ := q1
  subst e
  cases r1
  rcases q with ⟨⟨xs, hq⟩, q⟩ | ⟨⟨xs, hq⟩, q⟩
  · obtain ⟨its, rv, p, hz⟩ := I1.list hq
    refine wpAny_pyIter_list p.isList ?_
    refine ⟨s1.heap.objs.size, [s1.heap.objs.size], _, _, H1, rfl, I1.kept (t' := s1.toks) fun b o e => Heap.get?_push_of_some _ e, turn_list a _, ⟨_, Heap.get?_push_size _ rfl, rfl, rfl⟩, fun b hb => ?_, q⟩
    have e : b = s1.heap.objs.size := by simpa using hb
    subst e
    exact I1.fpOk (Nat.le_refl _) (I1.hok.fresh (Nat.le_refl _))
  · obtain ⟨its, rv, p, hz⟩ := I1.tuple hq
    refine wpAny_pyIter_tuple (show s1.heap.IsTuple a its.toArray from p) ?_
    refine ⟨s1.heap.objs.size, [s1.heap.objs.size], _, _, H1, rfl, I1.kept (t' := s1.toks) fun b o e => Heap.get?_push_of_some _ e, turn_tuple a _, ⟨_, Heap.get?_push_size _ rfl, rfl, rfl⟩, fun b hb => ?_, q⟩
    have e : b = s1.heap.objs.size := by simpa using hb
    subst e
    exact I1.fpOk (Nat.le_refl _) (I1.hok.fresh (Nat.le_refl _))
end PI
/-! ## Pi6 -/
set_option Elab.async false
set_option linter.all false
set_option maxRecDepth 100000
set_option maxHeartbeats 1000000
set_option autoImplicit false
/-! PI, part 6: for, while, comprehensions, calls, defs. -/
namespace PI
open PySem L2
section
variable {G : Gx} {ρ : List Addr} {H : Hp} {h : Hh} {σ : L2.St} {e : En} {W : WX}
theorem tW.intro {w : WDen} {R : It → Hp → Prop} {F : List Addr → Hh → Hp → Wk → Prop} (hr : HR G ρ h H) (er : ER G ρ H σ e) (p : PostG G ρ H F (fun c d H' => W c d σ H') (w e h))
    (f : ∀ ρ' h' H' k J, Le G ρ H ρ' H' → HR G ρ' h' H' → ItOk G ρ' H' k J → F ρ' h' H' k → R J H') : tW G W w σ H R := by
  refine ⟨ρ, h, e, hr, er, ?_⟩
  cases q : w e h with
  | bad => rw [q] at p; exact p
  | ok d h' => rw [q] at p; exact fun ρ' H' J l hr' it => f ρ' h' H' d J l hr' it (p ρ' H' l hr')
  | exc c fs h' => rw [q] at p; exact p
end
theorem tup_items {G : Gx} {ρ0 : List Addr} {H0 : Hp} {K : PySem.W.Frag} {a : Addr} {vs : List V} {ds : List D} (hK : G.K = K) (hs : SqT G.K H0 a vs) (r : RDs G ρ0 H0 vs ds) (uniq : ∀ ρ H, Le G ρ0 H0 ρ H → ∀ xs, SqT K H a xs → SqT K H a vs → True) :
    ItOk G ρ0 H0 (.its ds) (Itt K a) := by
  intro ρ h H l hr _ i
  subst hK
  have hs' := l.tup _ _ hs
  have r' := r.mono l
  refine ⟨fun d e => ?_, fun hi => ⟨vs, hs', by rw [r.length]; exact hi⟩⟩
  obtain ⟨v, g1, g2⟩ := r'.get e
  refine ⟨⟨vs, v, hs', g1⟩, fun x H' hy => ?_⟩
  obtain ⟨rfl, hy⟩ := hy
  have e2 := hy vs hs'
  rw [g1] at e2
  cases e2
  exact ⟨ρ, Le.refl, hr, g2⟩
section
variable {X : Cx} {G : Gx} {W : WX} {pos p : Pos} {tg a b : Expr} {da db : Den}
theorem lst_items {ρ0 : List Addr} {H0 : Hp} {n : Nat} {a : Addr} {ds : List D} (q : ρ0[n]? = some a) : ItOk G ρ0 H0 (.lst n ds) (Itl G.K a) := by
  intro ρ h H l hr st i
  have q' := l.at q
  have e : lstAt h n = some ds := by
    simp only [Wk.still] at st
    split at st
    · rename_i ys g
      rw [g, D.sameL_eq _ _ st]
    · cases st
  obtain ⟨vs, g1, g2⟩ := sql_of hr q' e
  refine ⟨fun d e => ?_, fun hi => ⟨vs, SqL.of g1, by rw [g2.length]; exact hi⟩⟩
  obtain ⟨v, e1, e2⟩ := g2.get e
  refine ⟨⟨vs, v, SqL.of g1, e1⟩, fun x H' hy => ?_⟩
  obtain ⟨rfl, hy⟩ := hy
  have e3 := hy vs (SqL.of g1)
  rw [e1] at e3
  cases e3
  exact ⟨ρ, Le.refl, hr, e2⟩
theorem rl_items {ρ0 : List Addr} {H0 : Hp} {a : Addr} {vs : List V} {ds : List D} (hs : SqR G.K H0 a vs) (r : RDs G ρ0 H0 vs ds) : ItOk G ρ0 H0 (.its ds) (Itl G.K a) := by
  intro ρ h H l hr _ i
  have hs' := (l.rol _ _ hs).sq
  have r' := r.mono l
  refine ⟨fun d e => ?_, fun hi => ⟨vs, hs', by rw [r.length]; exact hi⟩⟩
  obtain ⟨v, g1, g2⟩ := r'.get e
  refine ⟨⟨vs, v, hs', g1⟩, fun x H' hy => ?_⟩
  obtain ⟨rfl, hy⟩ := hy
  have e2 := hy vs hs'
  rw [g1] at e2
  cases e2
  exact ⟨ρ, Le.refl, hr, g2⟩
theorem rng_items {ρ0 : List Addr} {H0 : Hp} {lo : Int} {n : Nat} : ItOk G ρ0 H0 (.rng lo n) (Itr lo n) := by
  intro ρ h H l hr _ i
  refine ⟨fun d e => ?_, fun hi => by
    show n ≤ i
    simpa [Wk.items] using hi⟩
  simp only [Wk.items] at e
  rw [List.getElem?_map] at e
  by_cases hi : i < n
  · rw [List.getElem?_range hi] at e
    cases e
    refine ⟨hi, fun x H' hy => ?_⟩
    obtain ⟨rfl, rfl⟩ := hy
    exact ⟨ρ, Le.refl, hr, .int _⟩
  · rw [List.getElem?_eq_none (by simpa using hi)] at e
    cases e
theorem iw_seq (hK : G.K = X.K) (ha : PE X a (tI G W da)) : PI X tg a (tW G W (wSeq da)) := by
  refine pi_imp (pi_seq ha) fun σ H R ⟨ρ, h, e, hr, er, p⟩ => ?_
  refine tI.intro hr er (PostW.bind p) fun ρ1 h1 H1 x v l1 hr1 r1 p1 => ?_
  cases r1 with
  | tup hs rs => exact ⟨_, rfl, .inr ⟨⟨_, hK ▸ hs⟩, p1 ρ1 H1 _ Le.refl hr1 (tup_items hK hs rs fun _ _ _ _ _ _ => trivial)⟩⟩
  | rl hs rs => exact ⟨_, rfl, .inl ⟨⟨_, hK ▸ hs.sq⟩, p1 ρ1 H1 _ Le.refl hr1 (hK ▸ rl_items hs rs)⟩⟩
  | ref q =>
    simp only at p1
    split at p1
    · rename_i xs g
      obtain ⟨vs, g1, g2⟩ := sql_of hr1 q g
      exact ⟨_, rfl, .inl ⟨⟨_, SqL.of g1⟩, p1 ρ1 H1 _ Le.refl hr1 (hK ▸ lst_items q)⟩⟩
    · exact p1.elim
  | _ => exact False.elim p1
theorem iw_str (ha : PE X a (tI G W da)) : PI X tg a (tW G W (wStr da)) := by
  refine pi_imp (pi_str ha) fun σ H R ⟨ρ, h, e, hr, er, p⟩ => ?_
  refine tI.intro hr er (PostW.bind p) fun ρ1 h1 H1 x v l1 hr1 r1 p1 => ?_
  cases x with
  | str s =>
    obtain ⟨z, rfl, rfl⟩ := rd_str_inv r1
    refine ⟨z, rfl, p1 ρ1 H1 _ Le.refl hr1 ?_⟩
    intro ρ h H l hr _ i
    refine ⟨fun d e => ?_, fun hi => by
      show z.cps.size ≤ i
      simpa [Wk.items] using hi⟩
    simp only [Wk.items] at e
    rw [List.getElem?_map] at e
    cases q : z.cps.toList[i]? with
    | none => rw [q] at e; cases e
    | some c =>
      rw [q] at e
      cases e
      have q' : z.cps[i]? = some c := by simpa using q
      refine ⟨(Array.getElem?_eq_some_iff.mp q').1, fun x H' hy => ?_⟩
      obtain ⟨rfl, c', e1, rfl⟩ := hy
      rw [q'] at e1
      cases e1
      exact ⟨ρ, Le.refl, hr, rd_str rfl⟩
  | _ => exact False.elim p1
theorem iw_rng1 (ha : PE X a (tI G W da)) (hm : X.mg "range" = none) (hg : Gl X "range" := by rfl) (he : starEach [a] X.env = (false, eval a X.env) :: starEach [] X.env := by rfl) (hs : starEach [a] X.env = [(false, eval a X.env)] := by rfl) : PI X tg (.Call (.Name "range" p) [a] [] pos) (tW G W (wRng1 da)) := by
  refine pi_imp (pi_range1 hg hm (pa_cons ha pa_nil he) hs) fun σ H R ⟨ρ, h, e, hr, er, p⟩ => ?_
  refine tI.intro hr er (PostW.bind p) fun ρ1 h1 H1 x v l1 hr1 r1 p1 => ?_
  cases r1 <;> first
    | exact False.elim p1
    | skip
  rename_i j
  simp only at p1
  split at p1
  · rename_i c
    exact ⟨j, rfl, c.1, c.2, p1 ρ1 H1 _ Le.refl hr1 rng_items⟩
  · exact p1.elim
theorem iw_rng2 (ha : PE X a (tI G W da)) (hb : PE X b (tI G W db)) (hm : X.mg "range" = none) (hg : Gl X "range" := by rfl) (he : starEach [a, b] X.env = (false, eval a X.env) :: starEach [b] X.env := by rfl) (he2 : starEach [b] X.env = (false, eval b X.env) :: starEach [] X.env := by rfl)
    (hs : starEach [a, b] X.env = [(false, eval a X.env), (false, eval b X.env)] := by rfl) (hs2 : starEach [b] X.env = [(false, eval b X.env)] := by rfl) : PI X tg (.Call (.Name "range" p) [a, b] [] pos) (tW G W (wRng2 da db)) := by
  refine pi_imp (pi_range2 hg hm (pa_cons ha (pa_cons hb pa_nil he2) he) hs hs2) fun σ H R ⟨ρ, h, e, hr, er, p⟩ => ?_
  refine tI.intro hr er (PostW.bind p) fun ρ1 h1 H1 x v l1 hr1 r1 p1 => ?_
  refine tI.intro hr1 (er.mono l1) (PostW.bind p1) fun ρ2 h2 H2 y w l2 hr2 r2 p2 => ?_
  cases r1 <;> first
    | exact False.elim p2
    | skip
  cases r2 <;> first
    | exact False.elim p2
    | skip
  rename_i i j
  simp only at p2
  split at p2
  · rename_i c
    exact ⟨i, j, rfl, ⟨c.1.1, c.1.2, c.2.1, c.2.2⟩, p2 ρ2 H2 _ Le.refl hr2 rng_items⟩
  · exact p2.elim
/-! ### for -/
theorem is_for {iter : Expr} {body : List Stmt} {w : WDen} {g : GDen} {s : SDen} (po : PassesOwn (model X.prog X.w) X.A X.env X.xe) (hc : X.calm = true) (hi : PI X tg iter (tW G W w)) (hg : PG X tg (tG G W g)) (hb : PSs X body (tS G W s))
    (hs : ∀ x, foldedSetIterable iter X.env x = pure x := by intro _; rfl) : PS X (.For tg iter body [] pos) (tS G W (sFor w g s)) := by
  refine ps_imp (ps_for po hc hi hg hb hs) fun D σ H ⟨ρ, h, e, hr, er, p⟩ => ?_
  refine tW.intro hr er (PostS.sb er p) fun ρ1 h1 H1 k J l1 hr1 it p1 => ?_
  refine ⟨fun i m σ H => ∃ ρ h e, Le G ρ1 H1 ρ H ∧ HR G ρ h H ∧ ER G ρ H σ e ∧ i ≤ k.items.length ∧ m = k.items.length - i ∧ PostS G ρ H D W (forGo k g s (k.items.drop i) e h),
    ⟨_, ρ1, h1, e, Le.refl, hr1, er.mono l1, Nat.zero_le _, rfl, by simpa using p1⟩, fun i m σ H hw => ?_⟩
  obtain ⟨ρ2, h2, e2, l2, hr2, er2, hi, rfl, p2⟩ := hw
  by_cases hlt : i < k.items.length
  · rw [List.drop_eq_getElem_cons hlt] at p2
    simp only [forGo] at p2
    split at p2
    · rename_i st
      have ok := it ρ2 h2 H l2 hr2 st i
      obtain ⟨go, yl⟩ := ok.1 _ (List.getElem?_eq_getElem hlt)
      refine .inr ⟨go, fun σ' H' => ∃ ρ h e, Le G ρ1 H1 ρ H' ∧ HR G ρ h H' ∧ ER G ρ H' σ' e ∧ PostS G ρ H' D W (forGo k g s (k.items.drop (i + 1)) e h), fun σ' H' hN => ?_, fun x H' hy => ?_⟩
      · obtain ⟨ρ3, h3, e3, a1, a2, a3, a4⟩ := hN
        exact ⟨k.items.length - (i + 1), by omega, ρ3, h3, e3, a1, a2, a3, hlt, rfl, a4⟩
      · obtain ⟨ρ3, l3, hr3, rd⟩ := yl x H' hy
        have p3 := PostS.le l3 p2
        refine ⟨ρ3, h2, e2, _, hr3, er2.mono l3, rd, ?_⟩
        cases q : g k.items[i] e2 h2 with
        | bad => rw [q] at p3; exact p3
        | exc c fs h4 => rw [q] at p3; exact fun ρ' dd H' l hr x => p3 ρ' H' l hr σ dd ((er2.mono l3).mono l) x
        | ok e4 h4 =>
          rw [q] at p3
          obtain ⟨f, h5, q5, p5⟩ := PostS.bind (show PostS G ρ3 H' D W ((s e4 h4).bind _) from p3)
          intro ρ4 H4 σ4 l4 hr4 er4
          refine ⟨ρ4, h4, e4, hr4, er4, ?_⟩
          rw [q5]
          intro ρ5 H5 l5 hr5
          have p6 := PostS.le (l4.trans l5) p5
          have lall : Le G ρ1 H1 ρ5 H5 := ((l2.trans l3).trans l4).trans l5
          cases f with
          | nx e6 => exact fun σ6 er6 => ⟨ρ5, h5, e6, lall, hr5, er6, p6⟩
          | ct e6 => exact fun σ6 er6 => ⟨ρ5, h5, e6, lall, hr5, er6, p6⟩
          | bk e6 => exact p6 ρ5 H5 Le.refl hr5
          | rt d => exact p6 ρ5 H5 Le.refl hr5
          | xc c fs e6 => exact p6 ρ5 H5 Le.refl hr5
    · exact p2.elim
  · have hn : i = k.items.length := by omega
    subst hn
    rw [List.drop_length] at p2
    simp only [forGo] at p2
    split at p2
    · rename_i st
      exact .inl ⟨(it ρ2 h2 H l2 hr2 st _).2 (Nat.le_refl _), p2 ρ2 H Le.refl hr2 σ er2⟩
    · exact p2.elim
/-! ### while -/
theorem is_while {c : Expr} {body : List Stmt} {t : TDen} {s : SDen} (po : PassesOwn (model X.prog X.w) X.A X.env X.xe) (hc : PT X c (tB' G W t)) (hb : PSs X body (tS G W s)) : PS X (.While c body [] pos) (tS G W (sWhile t s)) := by
  refine ps_imp (ps_while po hc hb) fun D σ H ⟨ρ, h, e, hr, er, p⟩ => ?_
  refine ⟨fun n σ H => ∃ ρ h e, HR G ρ h H ∧ ER G ρ H σ e ∧ PostS G ρ H D W (whGo t s n e h), ⟨_, ρ, h, e, hr, er, p⟩, fun n σ H hw => ?_⟩
  obtain ⟨ρ1, h1, e1, hr1, er1, p1⟩ := hw
  cases n with
  | zero => exact False.elim p1
  | succ n =>
    refine tB'.intro hr1 er1 (PostS.sb er1 p1) fun ρ2 h2 H2 k l2 hr2 p2 => ?_
    cases k with
    | false =>
      rw [if_neg Bool.false_ne_true] at p2
      exact iteF (p2 ρ2 H2 Le.refl hr2 σ (er1.mono l2))
    | true =>
      rw [if_pos rfl] at p2
      obtain ⟨f, h5, q5, p5⟩ := PostS.bind p2
      refine iteT ⟨fun σ' H' => ∃ ρ h e, HR G ρ h H' ∧ ER G ρ H' σ' e ∧ PostS G ρ H' D W (whGo t s n e h), fun σ' H' hN => ⟨n, Nat.lt_succ_self n, hN⟩, ρ2, h2, e1, hr2, er1.mono l2, ?_⟩
      rw [q5]
      intro ρ5 H5 l5 hr5
      have p6 := PostS.le l5 p5
      cases f with
      | nx e6 => exact fun σ6 er6 => ⟨ρ5, h5, e6, hr5, er6, p6⟩
      | ct e6 => exact fun σ6 er6 => ⟨ρ5, h5, e6, hr5, er6, p6⟩
      | bk e6 => exact p6 ρ5 H5 Le.refl hr5
      | rt d => exact p6 ρ5 H5 Le.refl hr5
      | xc c fs e6 => exact p6 ρ5 H5 Le.refl hr5
end

/-! ### comprehensions -/
section
variable {G : Gx} {ρ : List Addr} {H : Hp} {σ : L2.St} {e : En}
theorem ER.forget (x : ER G ρ H σ e) : ∀ vs : List Nat, ER G ρ H (wipe σ vs) (PI.forget e vs)
  | [] => x
  | v :: vs => (ER.forget x vs).unset
end
/-- a target's raw reading, over a comprehension's own slots -/
def tGv (G : Gx) (vs : List Nat) (g : GDen) (t : TG) : Prop := ∀ (v : V) (σ : L2.St) (H : Hp) (Q : L2.St → Hp → Prop) (ρ : List Addr) (h : Hh) (e e1 : En) (d : D) (h1 : Hh), HR G ρ h H → ER G ρ H (wipe σ vs) (PI.forget e vs) → RD G ρ H v d →
  g d (PI.forget e vs) h = .ok e1 h1 → (∀ σ2, HR G ρ h1 H → ER G ρ H σ2 e1 → wipe σ2 vs = wipe σ vs → Q σ2 H) → t v (wipe σ vs) H Q
theorem gv_name (G : Gx) (i : Nat) : tGv G [i] (gNm i) (gName i) := fun v σ H Q ρ h e e1 d h1 hr er r p q => by
  have w : wipe ((wipe σ [i]).set i (some v)) [i] = wipe σ [i] := by
    show ((σ.set i none).set i (some v)).set i none = σ.set i none
    rw [List.set_set, List.set_set]
  cases p
  exact q _ hr (er.set r) w
theorem gv_tup2 (G : Gx) {K : PySem.W.Frag} (hK : G.K = K) (i j : Nat) (hij : i ≠ j) : tGv G [i, j] (gTp 2 (gsCons (gNm i) (gsCons (gNm j) gsNil))) (gTup K 2 (gCons (gName i) (gCons (gName j) gNil))) := fun v σ H Q ρ h e e1 d h1 hr er r p q => by
  subst hK
  cases r with
  | tup hs rs =>
    simp only [gTp] at p
    split at p
    · rename_i c
      cases rs with
      | nil => cases c
      | @cons v1 _ d1 _ r1 rs =>
        cases rs with
        | nil => cases c
        | @cons v2 _ d2 _ r2 rs =>
          cases rs with
          | cons _ _ => simp at c
          | nil =>
            refine ⟨_, _, rfl, hs, rfl, _, _, rfl, _, _, rfl, rfl, ?_⟩
            have w : wipe (((wipe σ [i, j]).set i (some v1)).set j (some v2)) [i, j] = wipe σ [i, j] := by
              show (((((σ.set j none).set i none).set i (some v1)).set j (some v2)).set j none).set i none = (σ.set j none).set i none
              rw [List.set_set, List.set_set, List.set_comm _ _ hij, List.set_set, List.set_comm _ _ (Ne.symm hij), List.set_comm _ _ hij, List.set_set]
            cases p
            exact q _ hr ((er.set r1).set r2) w
    · cases p
  | _ => cases p
/-- a thing beside is changed that was not there at the start -/
theorem Le.beside {G : Gx} {ρ0 ρ : List Addr} {H0 H : Hp} {p : Addr} {u ho : HO} (l : Le G ρ0 H0 ρ H) (h0 : H0 p = none) (hp : H p = some u) (hu : openO u = true) : Le G ρ0 H0 ρ (upd H p ho) :=
  ⟨l.pre, fun a vs q => sqt_set hp hu (l.tup a vs q), fun a vs q => sqr_set hp hu (l.rol a vs q), fun b o e hb => by
    rw [upd_ne (ne_of_none e h0)]
    exact l.keep b o e hb, fun b o e => by
    obtain ⟨w, q⟩ := l.stay b o e
    exact ⟨w, by rw [upd_ne (ne_of_none e h0)]; exact q⟩⟩
theorem Le.free {G : Gx} {ρ0 ρ : List Addr} {H0 H : Hp} {p : Addr} (l : Le G ρ0 H0 ρ H) (h : H p = none) : H0 p = none := by
  cases e : H0 p with
  | none => rfl
  | some o =>
    obtain ⟨u, q⟩ := l.stay p o e
    rw [h] at q
    cases q
/-- beside stays beside -/
theorem Le.aside {G : Gx} {ρ ρ' : List Addr} {H H' : Hp} {p : Addr} {o : HO} (l : Le G ρ H ρ' H') (h : H p = some o) (hm : p ∉ ρ) : p ∉ ρ' ∧ H' p = some o := by
  obtain ⟨t, rfl, ht⟩ := l.pre
  refine ⟨fun z => ?_, l.keep p o h hm⟩
  rcases List.mem_append.mp z with z | z
  · exact hm z
  · rw [ht p z] at h
    cases h
theorem PostG.le {α : Type} {G : Gx} {ρ ρ' : List Addr} {H H' : Hp} {F : List Addr → Hh → Hp → α → Prop} {W : XK} {r : Res α} (l : Le G ρ H ρ' H') (p : PostG G ρ H F W r) : PostG G ρ' H' F W r := by
  cases r with
  | bad => exact p
  | ok d h => exact fun ρ2 H2 l2 => p ρ2 H2 (l.trans l2)
  | exc c fs h => exact fun ρ2 v H2 l2 => p ρ2 v H2 (l.trans l2)
/-- the turns make no exception -/
theorem compGo_noexc {w : Wk} {vs : List Nat} {g : GDen} {t : TDen} {elt : Den} {e : En} : ∀ (ds acc : List D) (h : Hh) (c : Nat) (fs : List (List Nat × D)) (h' : Hh), compGo w vs g t elt e ds acc h ≠ .exc c fs h'
  | [], acc, h, c, fs, h' => by
    unfold compGo
    split <;> exact fun q => nomatch q
  | d :: ds, acc, h, c, fs, h' => by
    unfold compGo
    split
    · cases g d (PI.forget e vs) h with
      | ok e1 h1 =>
        simp only [bn_ok]
        cases t e1 h1 with
        | ok b h2 =>
          simp only [bn_ok]
          split
          · cases elt e1 h2 with
            | ok x h3 =>
              simp only [bn_ok]
              split
              · exact compGo_noexc ds _ h3 c fs h'
              · exact fun q => nomatch q
            | _ => exact fun q => nomatch q
          · exact compGo_noexc ds _ h2 c fs h'
        | _ => exact fun q => nomatch q
      | _ => exact fun q => nomatch q
    · exact fun q => nomatch q
section
variable {X : Cx} {G : Gx} {W : WX} {pos : Pos} {tg iter elt : Expr} {ifs : List Expr} {scope : Scope} {own : List (Str × Nat)} {w : WDen} {g : GDen} {t : TDen} {da : Den} {tgr : TG}
abbrev W0 : WX := fun _ _ _ _ => False
/-- the new list lies beside the plain heap -/
theorem lc_gen {vs : List Nat} (gv : tGv G vs g tgr) {ρ : List Addr} {h : Hh} {H : Hp} {σ : L2.St} {e : En} {Q : VK} {F : List Addr → Hh → Hp → List D → Prop} (hr : HR G ρ h H) (er : ER G ρ H σ e)
    (p : PostG G ρ H F (fun c d H' => W c d σ H') (aComp w vs g t da e h))
    (fin : ∀ ρ' h' H' D vacc acc, Le G ρ H ρ' H' → HR G ρ' h' H' → D ∉ ρ' → H D = none → H' D = some (.lst vacc) → RDs G ρ' H' vacc acc → F ρ' h' H' acc → Q (.ref D) H') :
    tLc (tW G W w) tgr (tB' G W0 t) (tI G W0 da) vs σ H Q := by
  have p' : PostG G ρ H (fun ρ' h' H' k => PostG G ρ' H' F (fun c d H' => W c d σ H') (compGo k vs g t da e k.items [] h')) (fun c d H' => W c d σ H') (w e h) := by
    unfold aComp at p
    cases q : w e h with
    | bad => rw [q] at p; exact p
    | ok k h1 => rw [q] at p; exact fun ρ' H' l _ => PostG.le l p
    | exc c fs h1 => rw [q] at p; exact p
  refine tW.intro hr er p' fun ρ1 h1 H1 k J l1 hr1 it p1 pa hD => ?_
  have h0 := l1.free hD
  refine ⟨fun i m H => ∃ ρ h acc vacc, Le G ρ1 H1 ρ H ∧ HR G ρ h H ∧ pa ∉ ρ ∧ H pa = some (.lst vacc) ∧ RDs G ρ H vacc acc ∧ i ≤ k.items.length ∧ m = k.items.length - i ∧
      PostG G ρ1 H1 F (fun c d H' => W c d σ H') (compGo k vs g t da e (k.items.drop i) acc h),
    ⟨_, ρ1, h1, [], [], Le.new hD, hr1.beside hD, hr1.notin hD, upd_same, .nil, Nat.zero_le _, rfl, by simpa using p1⟩, fun i m H2 hw => ?_⟩
  obtain ⟨ρ2, h2, acc, vacc, l2, hr2, nD, eD, rD, hi, rfl, p2⟩ := hw
  by_cases hlt : i < k.items.length
  · rw [List.drop_eq_getElem_cons hlt] at p2
    simp only [compGo] at p2
    split at p2
    · rename_i st
      have ok := it ρ2 h2 H2 l2 hr2 st i
      obtain ⟨go, yl⟩ := ok.1 _ (List.getElem?_eq_getElem hlt)
      refine .inr ⟨go, fun H => ∃ ρ h acc vacc, Le G ρ1 H1 ρ H ∧ HR G ρ h H ∧ pa ∉ ρ ∧ H pa = some (.lst vacc) ∧ RDs G ρ H vacc acc ∧ PostG G ρ1 H1 F (fun c d H' => W c d σ H') (compGo k vs g t da e (k.items.drop (i + 1)) acc h),
        fun H' hN => ?_, fun x H3 hy => ?_⟩
      · obtain ⟨ρ3, h3, ac, va, a1, a2, a3, a4, a5, a6⟩ := hN
        exact ⟨k.items.length - (i + 1), by omega, ρ3, h3, ac, va, a1, a2, a3, a4, a5, hlt, rfl, a6⟩
      · obtain ⟨ρ3, l3, hr3, rd⟩ := yl x H3 hy
        obtain ⟨nD3, eD3⟩ := l3.aside eD nD
        have lA := l2.trans l3
        have er3 := (er.mono l1).mono lA
        cases qg : g k.items[i] (PI.forget e vs) h2 with
        | bad => rw [qg] at p2; exact p2.elim
        | exc c fs h4 => rw [qg] at p2; exact p2.elim
        | ok e4 h4 =>
          rw [qg] at p2
          simp only [bn_ok] at p2
          refine gv x σ H3 _ ρ3 h2 e e4 _ h4 hr3 (er3.forget vs) rd qg fun σ2 hr4 er4 ws => ⟨ws, ?_⟩
          refine ⟨ρ3, h4, e4, hr4, er4, ?_⟩
          cases qt : t e4 h4 with
          | bad => rw [qt] at p2; exact p2.elim
          | exc c fs h5 => rw [qt] at p2; exact p2.elim
          | ok b h5 =>
            rw [qt] at p2
            simp only [bn_ok] at p2
            intro ρ5 H5 l5 hr5
            obtain ⟨nD5, eD5⟩ := l5.aside eD3 nD3
            have rD5 := (rD.mono l3).mono l5
            cases b with
            | false =>
              rw [if_neg Bool.false_ne_true] at p2
              exact iteF ⟨ρ5, h5, acc, vacc, lA.trans l5, hr5, nD5, eD5, rD5, p2⟩
            | true =>
              rw [if_pos rfl] at p2
              refine iteT ⟨ρ5, h5, e4, hr5, er4.mono l5, ?_⟩
              cases qe : da e4 h5 with
              | bad => rw [qe] at p2; exact p2.elim
              | exc c fs h6 => rw [qe] at p2; exact p2.elim
              | ok y h6 =>
                rw [qe] at p2
                simp only [bn_ok] at p2
                intro ρ6 v6 H6 l6 hr6 r6
                obtain ⟨nD6, eD6⟩ := l6.aside eD5 nD5
                split at p2
                · rename_i c
                  rw [SLe] at c
                  have ll := ((lA.trans l5).trans l6).beside (ho := .lst (vacc ++ [v6])) hD eD6 rfl
                  have m2 : ∀ {vs : List V} {ds : List D}, RDs G ρ6 H6 vs ds → RDs G ρ6 (upd H6 pa (.lst (vacc ++ [v6]))) vs ds := fun r => RDs.mono2 (fun _ _ h => sqt_set eD6 rfl h) (fun _ _ h => sqr_set eD6 rfl h) r
                  exact ⟨vacc, eD6, by rw [rD.length]; exact c, ρ6, h6, acc ++ [y], _, ll, hr6.beside2 nD6 eD6 rfl, nD6, upd_same, m2 ((rD5.mono l6).append (.one r6)), p2⟩
                · exact p2.elim
    · exact p2.elim
  · have hn : i = k.items.length := by omega
    subst hn
    rw [List.drop_length] at p2
    simp only [compGo] at p2
    split at p2
    · rename_i st
      exact .inl ⟨(it ρ2 h2 H2 l2 hr2 st _).2 (Nat.le_refl _), fin ρ2 h2 H2 pa vacc acc (l1.trans l2) hr2 nD h0 eD rD (p2 ρ2 H2 l2 hr2)⟩
    · exact p2.elim
/-- beside things become objects of the plain heap -/
theorem adopt {ρ0 ρ : List Addr} {H0 H : Hp} {h : Hh} {pa : Addr} {vs : List V} {ds : List D} (l : Le G ρ0 H0 ρ H) (hr : HR G ρ h H) (nD : pa ∉ ρ) (h0 : H0 pa = none) (eD : H pa = some (.lst vs)) (r : RDs G ρ H vs ds) :
    Le G ρ0 H0 (ρ ++ [pa]) H ∧ HR G (ρ ++ [pa]) (h ++ [.lst ds]) H := by
  obtain ⟨t, rfl, ht⟩ := l.pre
  have up : ∀ {v : V} {d : D}, RD G (ρ0 ++ t) H v d → RD G (ρ0 ++ t ++ [pa]) H v d := fun r => RD.grow _ r
  have ups : ∀ {v : List V} {d : List D}, RDs G (ρ0 ++ t) H v d → RDs G (ρ0 ++ t ++ [pa]) H v d := fun r => RDs.grow _ r
  refine ⟨⟨⟨t ++ [pa], by simp, fun b hb => ?_⟩, l.tup, l.rol, l.keep, l.stay⟩, ⟨by
    have q := hr.len
    rw [List.length_append] at q
    rw [List.length_append, List.length_append, List.length_append, q] <;> rfl, ?_, fun i a u e1 e2 => ?_⟩⟩
  · rcases List.mem_append.mp hb with hb | hb
    · exact ht b hb
    · rw [List.mem_singleton.mp hb]
      exact h0
  · rw [List.nodup_append]
    refine ⟨hr.nd, by simp, fun b hb c hc => ?_⟩
    rw [List.mem_singleton.mp hc]
    exact fun z => nD (z ▸ hb)
  · by_cases hi : i < h.length
    · rw [List.getElem?_append_left (by rw [hr.len]; exact hi)] at e1
      rw [List.getElem?_append_left hi] at e2
      have q := hr.ok i a u e1 e2
      cases u with
      | lst ds => obtain ⟨vs, e, r⟩ := q; exact ⟨vs, e, ups r⟩
      | dk kvs => obtain ⟨vs, e, r⟩ := q; exact ⟨vs, e, r.mapD up⟩
      | dt kvs => obtain ⟨vs, e, r⟩ := q; exact ⟨vs, e, r.mapD up⟩
      | ins c fs => exact q.elim
    · rw [List.getElem?_append_right (by rw [hr.len]; omega)] at e1
      rw [List.getElem?_append_right (by omega)] at e2
      have h0 : i - h.length = 0 := by
        have q := (List.getElem?_eq_some_iff.mp e2).1
        simp at q
        omega
      rw [hr.len, h0] at e1
      rw [h0] at e2
      have ea : pa = a := by simpa using e1
      have eu : Ob.lst ds = u := by simpa using e2
      subst ea eu
      exact ⟨vs, eD, ups r⟩
theorem Post.bindG {α : Type} {ρ : List Addr} {H : Hp} {Q : VK} {W : XK} {r : Res α} {k : α → Hh → Res D} (p : Post G ρ H Q W (r.bind k)) : PostG G ρ H (fun _ h' _ a => Post G ρ H Q W (k a h')) W r := by
  cases r with
  | bad => exact p
  | ok a h => exact fun ρ' H' l _ => p
  | exc c fs h => exact p
theorem ie_lc (hc : X.calm = true) (hN : X.N.Nodup) (gv : tGv G (own.map (·.2)) g tgr) (hi : PI X tg iter (tW G W w)) (ok : BlkOk X.N X.env.scope scope own)
    (hg : ∀ (s : Shared) (H : Hp) (C : Addr) (cl : List (Str × Addr)) (fp : List Addr), PG (X.blk s H scope (compEnvC scope cl C X.env) fp) tg tgr) (ht : ∀ (s : Shared) (H : Hp) (C : Addr) (cl : List (Str × Addr)) (fp : List Addr), PTs (X.blk s H scope (compEnvC scope cl C X.env) fp) ifs (tB' G W0 t))
    (he : ∀ (s : Shared) (H : Hp) (C : Addr) (cl : List (Str × Addr)) (fp : List Addr), PE (X.blk s H scope (compEnvC scope cl C X.env) fp) elt (tI G W0 da)) (hs : ∀ x, foldedSetIterable iter X.env x = pure x := by intro _; rfl) :
    PE X (.ListComp elt [⟨tg, iter, ifs, 0⟩] scope pos) (tI G W (dLc (aComp w (own.map (·.2)) g t da))) := by
  refine pe_imp (pe_lc hc hN hi ok hg ht he hs) fun σ H Q ⟨ρ, h, e, hr, er, p⟩ => ?_
  refine lc_gen gv hr er (Post.bindG p) fun ρ1 h1 H1 pa vacc acc l1 hr1 nD h0 eD rD p1 => ?_
  obtain ⟨l2, hr2⟩ := adopt l1 hr1 nD h0 eD rD
  exact p1 _ _ _ l2 hr2 (.ref (by rw [← hr1.len]; simp))
end
end PI
/-! ## Pi7 -/
set_option Elab.async false
set_option linter.all false
set_option maxRecDepth 100000
set_option maxHeartbeats 1000000
set_option autoImplicit false
/-! PI, part 7: what is made of a comprehension at once, calls, defs, the end. -/
namespace PI
open PySem L2
section
variable {X : Cx} {G : Gx} {W : WX} {pos p : Pos} {tg iter elt : Expr} {ifs : List Expr} {scope : Scope} {own : List (Str × Nat)} {w : WDen} {g : GDen} {t : TDen} {da : Den} {tgr : TG}
theorem relabel_cf {env : Env} : ∀ {names : List (Str × NameKind)} {x : Str}, (names.lookup x = some .cell ∨ names.lookup x = some .free) →
    ((names.map fun (n, k) => if (k == NameKind.free && env.scope.kind == .function && env.kindOf n == some .cell) then (n, NameKind.cell) else (n, k)).lookup x = some .cell ∨ (names.map fun (n, k) => if (k == NameKind.free && env.scope.kind == .function && env.kindOf n == some .cell) then (n, NameKind.cell) else (n, k)).lookup x = some .free)
  | [], _, h => by simp at h
  | (n, k) :: r, x, h => by
    have ih := @relabel_cf env r x
    show List.lookup x ((if (k == NameKind.free && env.scope.kind == .function && env.kindOf n == some .cell) = true then (n, NameKind.cell) else (n, k)) :: _) = _ ∨ List.lookup x ((if (k == NameKind.free && env.scope.kind == .function && env.kindOf n == some .cell) = true then (n, NameKind.cell) else (n, k)) :: _) = _
    cases hx : x == n with
    | true =>
      simp only [List.lookup_cons, hx] at h
      by_cases hc : (k == NameKind.free && env.scope.kind == .function && env.kindOf n == some .cell) = true
      · rw [if_pos hc]
        exact .inl (by simp only [List.lookup_cons, hx])
      · rw [if_neg hc]
        simp only [List.lookup_cons, hx]
        exact h
    | false =>
      simp only [List.lookup_cons, hx] at h
      by_cases hc : (k == NameKind.free && env.scope.kind == .function && env.kindOf n == some .cell) = true
      · rw [if_pos hc]; simp only [List.lookup_cons, hx]; exact ih h
      · rw [if_neg hc]; simp only [List.lookup_cons, hx]; exact ih h
/-- a comprehension in a comprehension -/
theorem blkOk_in {X : Cx} {s : Shared} {H : Hp} {sc1 sc : Scope} {cl : List (Str × Addr)} {C : Addr} {fp : List Addr} {own : List (Str × Nat)} (h : blkC X.N sc1 sc own = true) : BlkOk (X.blk s H sc1 (compEnvC sc1 cl C X.env) fp).N (X.blk s H sc1 (compEnvC sc1 cl C X.env) fp).env.scope sc own := by
  obtain ⟨h1, h2, h3, h4, h5⟩ := blkOk_by h
  exact ⟨h1, h2, h3, fun y hy e => relabel_cf (h4 y hy e), h5⟩
/-- all that a comprehension's rule asks -/
structure CompOk (X : Cx) (G : Gx) (W : WX) (tg iter elt : Expr) (ifs : List Expr) (scope : Scope) (own : List (Str × Nat)) (w : WDen) (g : GDen) (t : TDen) (da : Den) : Prop where
  tgr : ∃ tgr : TG, tGv G (own.map (·.2)) g tgr ∧ (∀ (s : Shared) (H : Hp) (C : Addr) (cl : List (Str × Addr)) (fp : List Addr), PG (X.blk s H scope (compEnvC scope cl C X.env) fp) tg tgr)
  it : PI X tg iter (tW G W w)
  ok : BlkOk X.N X.env.scope scope own
  ht : ∀ (s : Shared) (H : Hp) (C : Addr) (cl : List (Str × Addr)) (fp : List Addr), PTs (X.blk s H scope (compEnvC scope cl C X.env) fp) ifs (tB' G W0 t)
  he : ∀ (s : Shared) (H : Hp) (C : Addr) (cl : List (Str × Addr)) (fp : List Addr), PE (X.blk s H scope (compEnvC scope cl C X.env) fp) elt (tI G W0 da)
  hs : ∀ x, foldedSetIterable iter X.env x = pure x
theorem its_nil {X : Cx} : PTs X [] (tB' G W PI.tYes) := ⟨fun pins s σ H Q I ⟨ρ, h, e, hr, er, p⟩ => pts_nil.run pins s σ H Q I (p ρ H Le.refl hr)⟩
theorem its_one {X : Cx} {c : Expr} {t : TDen} (h : PT X c (tB' G W t)) : PTs X [c] (tB' G W t) := pts_one h
theorem ie_comp (hc : X.calm = true) (hN : X.N.Nodup) (C : CompOk X G W tg iter elt ifs scope own w g t da) : PE X (.ListComp elt [⟨tg, iter, ifs, 0⟩] scope pos) (tI G W (dLc (aComp w (own.map (·.2)) g t da))) := by
  obtain ⟨⟨tgr, gv, hg⟩, hi, ok, ht, he, hs⟩ := C
  exact ie_lc hc hN gv hi ok hg ht he hs
/-- y = [..] on one line -/
theorem is_setLc (i : Nat) {y : Str} {py spos : Pos} (hc : X.calm = true) (hN : X.N.Nodup) (C : CompOk X G W tg iter elt ifs scope own w g t da) (hy : X.N[i]? = some y := by rfl) (hyl : X.env.scope.names.lookup y = some .local := by rfl)
    (hsw : swapsWith (.ListComp elt [⟨tg, iter, ifs, 0⟩] scope pos) (some (.Name y py)) spos.line X.env = pure true := by exact sw_true rfl rfl rfl (by decide +kernel)) :
    PS X (.Assign [.Name y py] (.ListComp elt [⟨tg, iter, ifs, 0⟩] scope pos) spos) (tS G W (sAsg (dLc (aComp w (own.map (·.2)) g t da)) (gNm i))) := by
  obtain ⟨⟨tgr, gv, hg⟩, hi, ok, ht, he, hs⟩ := C
  refine ps_imp (ps_setLc hc hN hy hyl hsw hi ok hg ht he hs) fun D σ H ⟨ρ, h, e, hr, er, p⟩ => ?_
  have p' : PostG G ρ H (fun ρ' h' H' a => ∀ ρ2 H2, Le G ρ H ρ2 H2 → HR G ρ2 (h' ++ [.lst a]) H2 → ∀ σ', ER G ρ2 H2 σ' (e.set i (some (.ref h'.length))) → D.nx σ' H2) (fun c d H' => W c d σ H') (aComp w (own.map (·.2)) g t da e h) := by
    have p := PostS.sb er p
    unfold dLc at p
    cases q : aComp w (own.map (·.2)) g t da e h with
    | bad => rw [q] at p; exact p
    | ok a h1 =>
      rw [q] at p
      exact fun ρ' H' l hr' ρ2 H2 l2 hr2 σ' er' => p ρ2 H2 l2 hr2 ρ2 H2 Le.refl hr2 σ' er'
    | exc c fs h1 => rw [q] at p; exact p
  refine lc_gen gv hr er p' fun ρ1 h1 H1 pa vacc acc l1 hr1 nD h0 eD rD p1 => ?_
  obtain ⟨l2, hr2⟩ := adopt l1 hr1 nD h0 eD rD
  refine p1 _ _ l2 hr2 _ ((er.mono l2).set (.ref ?_))
  rw [← hr1.len]
  simp
variable {x : Str} {r : List V → Hp → VK → Prop}
/-- a call of a built-in on a comprehension: the list is forgotten -/
theorem lc_call (C : CompOk X G W tg iter elt ifs scope own w g t da) {f : List D → Hh → Res D}
    (hf : ∀ ρ h H pa vs ds (Q : VK) (W : XK), HR G ρ h H → pa ∉ ρ → H pa = some (.lst vs) → RDs G ρ H vs ds → Post G ρ H Q W (f ds h) → r [.ref pa] H Q) :
    ∀ tgr, tGv G (own.map (·.2)) g tgr → ∀ σ H Q, tI G W (dArgs f (aComp w (own.map (·.2)) g t da)) σ H Q → tCB r (tCons (tLc (tW G W w) tgr (tB' G W0 t) (tI G W0 da) (own.map (·.2))) tNil) σ H Q := by
  intro tgr gv σ H Q ⟨ρ, h, e, hr, er, p⟩
  have z : tLc (tW G W w) tgr (tB' G W0 t) (tI G W0 da) (own.map (·.2)) σ H (fun x H1 => r [x] H1 Q) := lc_gen gv hr er (Post.bindG p) fun ρ1 h1 H1 pa vacc acc l1 hr1 nD h0 eD rD p1 => hf ρ1 h1 H1 pa vacc acc Q _ hr1 nD eD rD (Post.le l1 p1)
  exact z
theorem ie_compTy {T : String} (hc : X.calm = true) (hN : X.N.Nodup) (C : CompOk X G W tg iter elt ifs scope own w g t da) {f : List D → Hh → Res D} (cr : CallR X (.type T) r)
    (hf : ∀ ρ h H pa vs ds (Q : VK) (W : XK), HR G ρ h H → pa ∉ ρ → H pa = some (.lst vs) → RDs G ρ H vs ds → Post G ρ H Q W (f ds h) → r [.ref pa] H Q) (hm : X.mg x = none) (hg : Gl X x) (hv : bootBuiltins x = some (.type T))
    (hn : x ≠ "__name__" := by decide) (hdb : (x == ("__debug__" : Str)) = false := by decide) {q : Pos}
    (hst : starEach [Expr.ListComp elt [⟨tg, iter, ifs, 0⟩] scope pos] X.env = (false, eval (.ListComp elt [⟨tg, iter, ifs, 0⟩] scope pos) X.env) :: starEach [] X.env := by rfl) :
    PE X (.Call (.Name x p) [.ListComp elt [⟨tg, iter, ifs, 0⟩] scope pos] [] q) (tI G W (dArgs f (aComp w (own.map (·.2)) g t da))) := by
  have C' := C
  obtain ⟨⟨tgr, gv, hgt⟩, hi, ok, ht, he, hs⟩ := C
  exact pe_imp (pe_callTy cr hg hm hv (pa_cons (pe_lc hc hN hi ok hgt ht he hs) pa_nil hst) hn hdb hst) (lc_call C' hf tgr gv)
theorem ie_compB {id : String} (hc : X.calm = true) (hN : X.N.Nodup) (C : CompOk X G W tg iter elt ifs scope own w g t da) {f : List D → Hh → Res D} (cr : CallR X (.builtin id) r)
    (hf : ∀ ρ h H pa vs ds (Q : VK) (W : XK), HR G ρ h H → pa ∉ ρ → H pa = some (.lst vs) → RDs G ρ H vs ds → Post G ρ H Q W (f ds h) → r [.ref pa] H Q) (hm : X.mg x = none) (hg : Gl X x) (hv : bootBuiltins x = some (.builtin id))
    (hn : x ≠ "__name__" := by decide) (hdb : (x == ("__debug__" : Str)) = false := by decide) {q : Pos}
    (hst : starEach [Expr.ListComp elt [⟨tg, iter, ifs, 0⟩] scope pos] X.env = (false, eval (.ListComp elt [⟨tg, iter, ifs, 0⟩] scope pos) X.env) :: starEach [] X.env := by rfl) :
    PE X (.Call (.Name x p) [.ListComp elt [⟨tg, iter, ifs, 0⟩] scope pos] [] q) (tI G W (dArgs f (aComp w (own.map (·.2)) g t da))) := by
  have C' := C
  obtain ⟨⟨tgr, gv, hgt⟩, hi, ok, ht, he, hs⟩ := C
  exact pe_imp (pe_callB cr hg hm hv (pa_cons (pe_lc hc hN hi ok hgt ht he hs) pa_nil hst) hn hdb hst) (lc_call C' hf tgr gv)
theorem ie_tupC (hK : G.K = X.K) (hc : X.calm = true) (hN : X.N.Nodup) (C : CompOk X G W tg iter elt ifs scope own w g t da) (hm : X.mg "tuple" = none) (hg : Gl X "tuple" := by rfl) {q : Pos}
    (hst : starEach [Expr.ListComp elt [⟨tg, iter, ifs, 0⟩] scope pos] X.env = (false, eval (.ListComp elt [⟨tg, iter, ifs, 0⟩] scope pos) X.env) :: starEach [] X.env := by rfl) :
    PE X (.Call (.Name "tuple" p) [.ListComp elt [⟨tg, iter, ifs, 0⟩] scope pos] [] q) (tI G W (dArgs fTup (aComp w (own.map (·.2)) g t da))) :=
  ie_compTy hc hN C call_tuple_of (fun ρ h H pa vs ds Q W hr nD eD rD p => ⟨pa, vs, rfl, .inl ⟨SqL.of eD, fun l hl => post_tup p hr rD hl⟩⟩) hm hg (by decide +kernel) (by decide) (by decide) hst
theorem ie_allC (hK : G.K = X.K) (hc : X.calm = true) (hN : X.N.Nodup) (C : CompOk X G W tg iter elt ifs scope own w g t da) (hm : X.mg "all" = none) (hg : Gl X "all" := by rfl) {q : Pos}
    (hst : starEach [Expr.ListComp elt [⟨tg, iter, ifs, 0⟩] scope pos] X.env = (false, eval (.ListComp elt [⟨tg, iter, ifs, 0⟩] scope pos) X.env) :: starEach [] X.env := by rfl) :
    PE X (.Call (.Name "all" p) [.ListComp elt [⟨tg, iter, ifs, 0⟩] scope pos] [] q) (tI G W (dArgs fAll (aComp w (own.map (·.2)) g t da))) :=
  ie_compB hc hN C (cr_all hc) (fun ρ h H pa vs ds Q W hr nD eD rD p => by
    unfold fAll at p
    split at p
    · rename_i bs e
      have z := bls_ok rD e
      subst z
      exact ⟨pa, _, rfl, SqL.of eD, post_here p hr (.bl _)⟩
    · exact p.elim) hm hg (by decide +kernel) (by decide) (by decide) hst
theorem ie_anyC (hK : G.K = X.K) (hc : X.calm = true) (hN : X.N.Nodup) (C : CompOk X G W tg iter elt ifs scope own w g t da) (hm : X.mg "any" = none) (hg : Gl X "any" := by rfl) {q : Pos}
    (hst : starEach [Expr.ListComp elt [⟨tg, iter, ifs, 0⟩] scope pos] X.env = (false, eval (.ListComp elt [⟨tg, iter, ifs, 0⟩] scope pos) X.env) :: starEach [] X.env := by rfl) :
    PE X (.Call (.Name "any" p) [.ListComp elt [⟨tg, iter, ifs, 0⟩] scope pos] [] q) (tI G W (dArgs fAny (aComp w (own.map (·.2)) g t da))) :=
  ie_compB hc hN C (cr_any hc) (fun ρ h H pa vs ds Q W hr nD eD rD p => by
    unfold fAny at p
    split at p
    · rename_i bs e
      have z := bls_ok rD e
      subst z
      exact ⟨pa, _, rfl, SqL.of eD, post_here p hr (.bl _)⟩
    · exact p.elim) hm hg (by decide +kernel) (by decide) (by decide) hst
theorem ie_sumC (hK : G.K = X.K) (hc : X.calm = true) (hN : X.N.Nodup) (C : CompOk X G W tg iter elt ifs scope own w g t da) (hm : X.mg "sum" = none) (hg : Gl X "sum" := by rfl) {q : Pos}
    (hst : starEach [Expr.ListComp elt [⟨tg, iter, ifs, 0⟩] scope pos] X.env = (false, eval (.ListComp elt [⟨tg, iter, ifs, 0⟩] scope pos) X.env) :: starEach [] X.env := by rfl) :
    PE X (.Call (.Name "sum" p) [.ListComp elt [⟨tg, iter, ifs, 0⟩] scope pos] [] q) (tI G W (dArgs fSum (aComp w (own.map (·.2)) g t da))) :=
  ie_compB hc hN C (cr_sum hc) (fun ρ h H pa vs ds Q W hr nD eD rD p => by
    unfold fSum at p
    split at p
    · rename_i bs e
      have z := ints_ok rD e
      subst z
      exact ⟨pa, _, rfl, SqL.of eD, post_here p hr (.int _)⟩
    · exact p.elim) hm hg (by decide +kernel) (by decide) (by decide) hst
end
/-! ### x.extend([..]): the new list is forgotten -/
section
variable {X : Cx} {G : Gx} {W : WX} {apos cpos lpos : Pos} {o : Expr} {es : List Expr} {da : Den} {dr : ADen}
theorem ie_extL (hK : G.K = X.K) (ho : PE X o (tI G W da)) (ha : PA X es (tA G W dr))
    (hbase : attributeBase o "extend" X.env (eval o X.env) = eval o X.env := by rfl)
    (hfew : ((backTo cpos (starEach [Expr.List es lpos] X.env)).all (fun x => !x.1) && (backToKw cpos (keywordEach [] X.env)).all (fun x => x.1.isSome)
      && decide ([Expr.List es lpos].length + ([] : List Keyword).length + (if ([] : List Keyword).isEmpty then 0 else 1) < 30)) = true := by rfl)
    (hline : (apos.endLine == cpos.line) = true := by rfl) (hs : starEach [Expr.List es lpos] X.env = (false, eval (.List es lpos) X.env) :: starEach [] X.env := by rfl) :
    PE X (.Call (.Attribute o "extend" apos) [.List es lpos] [] cpos) (tI G W (dMeth mExtL da dr)) := by
  refine pe_imp (pe_bm PySem.F.plainAttrs_list PySem.F.slot_list_extend PySem.F.type_list_extend mt_extend ho (pa_cons (pe_lst ha) pa_nil hs) hbase hfew hline hs rfl) fun σ H Q ⟨ρ, h, e, hr, er, p⟩ => ?_
  refine tI.intro hr er (Post.bind p) fun ρ1 h1' H1 x v l1 hr1 r1 p1 => ?_
  split at p1
  · rename_i c
    refine ⟨hK ▸ isLst_ty hr1 r1 c, ?_⟩
    refine tA.intro hr1 (er.mono l1) (Post.bind p1) fun ρ2 h2 H2 xs vs l2 hr2 r2 p2 => ?_
    have r1' := r1.mono l2
    cases r1' with
    | ref q =>
      simp only [mExtL] at p2
      split at p2
      · rename_i ys g
        obtain ⟨ws, g1, g2⟩ := lst_of hr2 q g
        split at p2
        · rename_i c2
          rw [SLe, ← g2.length, ← r2.length] at c2
          refine ⟨by omega, fun l hl => ?_⟩
          have hr3 := hr2.beside (ho := .lst vs) hl
          have p3 := Post.le (Le.new (ho := .lst vs) hl) p2
          have nl := ne_of_none g1 hl
          exact ⟨_, l, ws, vs, rfl, rfl, by rw [upd_ne nl]; exact g1, upd_same, c2, post_set p3 hr3 q g (by rw [upd_ne nl]; exact g1) ((g2.append r2).mono (Le.new hl)) .non⟩
        · exact p2.elim
      · exact p2.elim
    | _ => exact False.elim p2
  · exact p1.elim
end

section
variable {X : Cx} {G : Gx} {W : WX} {apos cpos pos : Pos} {o tg iter elt : Expr} {ifs : List Expr} {scope : Scope} {own : List (Str × Nat)} {w : WDen} {g : GDen} {t : TDen} {da do_ : Den}
theorem ie_extC (hK : G.K = X.K) (hc : X.calm = true) (hN : X.N.Nodup) (ho : PE X o (tI G W do_)) (C : CompOk X G W tg iter elt ifs scope own w g t da)
    (hbase : attributeBase o "extend" X.env (eval o X.env) = eval o X.env := by rfl)
    (hfew : ((backTo cpos (starEach [Expr.ListComp elt [⟨tg, iter, ifs, 0⟩] scope pos] X.env)).all (fun x => !x.1) && (backToKw cpos (keywordEach [] X.env)).all (fun x => x.1.isSome)
      && decide ([Expr.ListComp elt [⟨tg, iter, ifs, 0⟩] scope pos].length + ([] : List Keyword).length + (if ([] : List Keyword).isEmpty then 0 else 1) < 30)) = true := by rfl)
    (hline : (apos.endLine == cpos.line) = true := by rfl) (hst : starEach [Expr.ListComp elt [⟨tg, iter, ifs, 0⟩] scope pos] X.env = (false, eval (.ListComp elt [⟨tg, iter, ifs, 0⟩] scope pos) X.env) :: starEach [] X.env := by rfl) :
    PE X (.Call (.Attribute o "extend" apos) [.ListComp elt [⟨tg, iter, ifs, 0⟩] scope pos] [] cpos) (tI G W (dMeth mExtL do_ (aComp w (own.map (·.2)) g t da))) := by
  obtain ⟨⟨tgr, gv, hgt⟩, hi, ok, ht, he, hs⟩ := C
  refine pe_imp (pe_bm PySem.F.plainAttrs_list PySem.F.slot_list_extend PySem.F.type_list_extend mt_extend ho (pa_cons (pe_lc hc hN hi ok hgt ht he hs) pa_nil hst) hbase hfew hline hst rfl) fun σ H Q ⟨ρ, h, e, hr, er, p⟩ => ?_
  refine tI.intro hr er (Post.bind p) fun ρ1 h1' H1 x v l1 hr1 r1 p1 => ?_
  split at p1
  · rename_i c
    refine ⟨hK ▸ isLst_ty hr1 r1 c, ?_⟩
    have z : tLc (tW G W w) tgr (tB' G W0 t) (tI G W0 da) (own.map (·.2)) σ H1 (fun y H2 => tNil σ H2 fun xs H3 => rExtend v (y :: xs) H3 Q) := lc_gen gv hr1 (er.mono l1) (Post.bindG p1) fun ρ2 h2 H2 pa vacc acc l2 hr2 nD h0 eD rD p2 => by
      have p2 := Post.le l2 p2
      have r1' := r1.mono l2
      cases r1' with
      | ref q =>
        simp only [mExtL] at p2
        split at p2
        · rename_i ys g
          obtain ⟨ws, g1, g2⟩ := lst_of hr2 q g
          split at p2
          · rename_i c2
            rw [SLe, ← g2.length, ← rD.length] at c2
            exact ⟨_, pa, ws, vacc, rfl, rfl, g1, eD, c2, post_set p2 hr2 q g g1 (g2.append rD) .non⟩
          · exact p2.elim
        · exact p2.elim
      | _ => exact False.elim p2
    exact z
  · exact p1.elim
end

/-! ### calls of the program's own defs -/
/-- what a def promises: it does what g says -/
def spI (G : Gx) (np : Nat) (g : List D → Hh → Res D) : Sp := fun vs H Q E => ∃ ρ h ds, HR G ρ h H ∧ RDs G ρ H vs ds ∧ ds.length = np ∧ Post G ρ H Q E (g ds h)
structure CalOk (P : Program) (w : World) (K : PySem.W.Frag) (mg : Str → Option Value) (base : Heap) (G : Gx) (n : Nat) (x : Str) (np : Nat) (g : List D → Hh → Res D) : Prop where
  ex : ∃ f fd ps, mg x = some (.ref f) ∧ PySem.W.keepIn K (.ref f) = true ∧ Binds K fd ps [] ∧ FnOk P w K mg base (L2.CX P w) n f fd ps (spI G np g)
section
variable {X : Cx} {G : Gx} {W : WX} {pos p : Pos} {e : Expr} {es : List Expr} {dr : ADen} {x : Str} {n np k : Nat} {c : Cal}
theorem ie_call (C : CalOk X.prog X.w X.K X.mg X.base G n x np (c k)) (hr : Room n X.A) (tk : Takes X W) (ha : PA X (e :: es) (tA G W dr)) (hg : Gl X x := by rfl) (hdb : (x == ("__debug__" : Str)) = false := by decide)
    (he : starEach (e :: es) X.env = (false, eval e X.env) :: starEach es X.env := by rfl) (hpl : (backTo pos (starEach es X.env)).any (·.1) = false := by rfl) : PE X (.Call (.Name x p) (e :: es) [] pos) (tI G W (dCallN c k np dr)) := by
  obtain ⟨f, fd, ps, hm, hk, hb, F⟩ := C.ex
  refine pe_imp (pe_callS F hr hg hm hk hb (fun σ => passAt tk σ) ha hdb he hpl) fun σ H Q ⟨ρ, h, e, hr, er, p⟩ => ?_
  refine tA.intro hr er (Post.bind p) fun ρ1 h1 H1 xs vs l1 hr1 r1 p1 => ?_
  split at p1
  · rename_i q
    exact ⟨ρ1, h1, xs, hr1, r1, q, p1⟩
  · exact p1.elim
theorem ie_call0 (C : CalOk X.prog X.w X.K X.mg X.base G n x 0 (c k)) (hr : Room n X.A) (hg : Gl X x := by rfl) (hdb : (x == ("__debug__" : Str)) = false := by decide) : PE X (.Call (.Name x p) [] [] pos) (tI G W (dCall0 c k)) := by
  obtain ⟨f, fd, ps, hm, hk, hb, F⟩ := C.ex
  refine pe_imp (pe_call0 F hr hg hm hk hb .nil passL hdb) fun σ H Q ⟨ρ, h, e, hr, er, p⟩ => ?_
  unfold dCall0 at p
  refine ⟨ρ, h, [], hr, .nil, rfl, ?_⟩
  show Post G ρ H Q E0 (c k [] h)
  cases q : c k [] h with
  | ok d h1 => rw [q] at p; exact p
  | _ => rw [q] at p; exact p.elim
end
/-! ### a def -/
theorem er_start {G : Gx} {ρ : List Addr} {H : Hp} {vs : List V} {ds : List D} (N : List Str) (r : RDs G ρ H vs ds) : ER G ρ H (L2.start N vs) (ds.map some ++ List.replicate (N.length - ds.length) none) := by
  unfold L2.start
  rw [r.length]
  refine ⟨by simp [r.length], fun i d q => ?_⟩
  by_cases hi : i < ds.length
  · rw [List.getElem?_append_left (by simpa using hi), List.getElem?_map] at q
    cases e : ds[i]? with
    | none => rw [e] at q; cases q
    | some d' =>
      rw [e] at q
      cases q
      obtain ⟨v, h1, h2⟩ := r.get e
      refine ⟨v, ?_, h2⟩
      rw [List.getElem?_append_left (by simpa [r.length] using hi), List.getElem?_map, h1]
      rfl
  · rw [List.getElem?_append_right (by simpa using hi), List.getElem?_replicate] at q
    split at q <;> cases q
theorem fn_I {P : Program} {w : World} {K : PySem.W.Frag} {mg : Str → Option Value} {base : Heap} {G : Gx} {x qual : Str} {st : Stmt} {f : Addr} {fd : FuncData} {N ps : List Str} {n : Nat} {b : SDen} (F : Fun K x qual st f fd) (S : FnScope N ps (defScope st))
    (hb : ∀ (cdv : Value) (A : Around) (outer : List Env) (s : Shared) (H : Hp) (E : XK), Room n (A.deeper (PyProof.Rows.envOfC qual (defScope st) s.heap.objs.size f cdv)) →
      PSs (cxOf (L2.CX P w) P w K mg base N qual (defScope st) f cdv A outer s H E) (defBody st) (tS G (fun cls d _ H => E cls d H) b)) :
    FnOk P w K mg base (L2.CX P w) (n + 1) f fd ps (spI G ps.length fun ds h => runBody N.length b ps.length ds h) := by
  refine F.okX S (fun vs H Q E ⟨ρ, h, ds, hr, r, hl, p⟩ => by rw [r.length]; exact hl) fun cdv A outer s H vs Q E hr ⟨ρ, h, ds, hr', r, hl, p⟩ => ?_
  refine ⟨_, hb cdv A outer s H E hr, ρ, h, _, hr', er_start N r, ?_⟩
  have p : Post G ρ H Q E (runBody N.length b ps.length ds h) := p
  unfold runBody at p
  rw [if_pos hl] at p
  rw [hl]
  cases q : b (ds.map some ++ List.replicate (N.length - ps.length) none) h with
  | bad => rw [q] at p; exact p
  | exc c fs h1 => rw [q] at p; exact p.elim
  | ok fl h1 =>
    rw [q] at p
    intro ρ1 H1 l1 hr1
    cases fl with
    | nx e => exact fun σ _ => p ρ1 .non H1 l1 hr1 .non
    | rt d => exact fun v rv => p ρ1 v H1 l1 hr1 rv
    | bk e => exact p.elim
    | ct e => exact p.elim
    | xc c fs e => exact fun σ dd _ x => p ρ1 dd H1 l1 hr1 x
end PI
/-! ## Pi8 -/
set_option Elab.async false
set_option linter.all false
set_option maxRecDepth 100000
set_option maxHeartbeats 1000000
set_option autoImplicit false
/-! PI, part 8: more built-ins, reversed. -/
namespace PI
open PySem L2
theorem maxL_ge : ∀ (is : List Int) (m : Int), m ≤ maxL m is ∧ (∀ y ∈ is, y ≤ maxL m is) ∧ (maxL m is = m ∨ maxL m is ∈ is)
  | [], m => ⟨Int.le_refl _, by simp, .inl rfl⟩
  | i :: is, m => by
    obtain ⟨h1, h2, h3⟩ := maxL_ge is (if i > m then i else m)
    simp only [maxL]
    refine ⟨?_, fun y hy => ?_, ?_⟩
    · split at h1 <;> rename_i c <;> simp only [c, if_true, if_false] <;> omega
    · rcases List.mem_cons.mp hy with rfl | hy
      · split at h1 <;> rename_i c <;> simp only [c, if_true, if_false] <;> omega
      · exact h2 y hy
    · rcases h3 with h3 | h3
      · split at h3
        · rename_i c
          rw [if_pos c] at *
          exact .inr (by rw [h3]; simp)
        · rename_i c
          rw [if_neg c] at *
          exact .inl h3
      · exact .inr (List.mem_cons_of_mem _ h3)
theorem minL_le : ∀ (is : List Int) (m : Int), minL m is ≤ m ∧ (∀ y ∈ is, minL m is ≤ y) ∧ (minL m is = m ∨ minL m is ∈ is)
  | [], m => ⟨Int.le_refl _, by simp, .inl rfl⟩
  | i :: is, m => by
    obtain ⟨h1, h2, h3⟩ := minL_le is (if i < m then i else m)
    simp only [minL]
    refine ⟨?_, fun y hy => ?_, ?_⟩
    · split at h1 <;> rename_i c <;> simp only [c, if_true, if_false] <;> omega
    · rcases List.mem_cons.mp hy with rfl | hy
      · split at h1 <;> rename_i c <;> simp only [c, if_true, if_false] <;> omega
      · exact h2 y hy
    · rcases h3 with h3 | h3
      · split at h3
        · rename_i c
          rw [if_pos c] at *
          exact .inr (by rw [h3]; simp)
        · rename_i c
          rw [if_neg c] at *
          exact .inl h3
      · exact .inr (List.mem_cons_of_mem _ h3)
section
variable {X : Cx} {G : Gx}
theorem cs_max1 (hK : G.K = X.K) (hc : X.calm = true) : CallS X G (.builtin "max") bMax1 := ⟨_, cr_max hc, fun ρ h H xs ds Q W hr r p => by
  cases r with
  | nil => exact False.elim p
  | cons a r' =>
    cases r' with
    | cons _ _ => exact False.elim p
    | nil =>
      simp only [bMax1] at p
      split at p
      · rename_i i is e
        obtain ⟨_, ds, vs, rfl, g1, g2, g3⟩ := lst_arg hr a e
        have z := ints_ok g2 g3
        subst z
        refine ⟨_, _, rfl, hK ▸ g1, by simp, fun m hm hy => ?_⟩
        obtain ⟨h1, h2, h3⟩ := maxL_ge is i
        have em : m = maxL i is := by
          have a1 := hy (maxL i is) (by rcases h3 with h3 | h3 <;> simp [h3])
          have a2 : m ≤ maxL i is := by
            rcases List.mem_cons.mp hm with q | q
            · omega
            · exact h2 m q
          omega
        rw [em]
        exact post_here p hr (.int _)
      · exact p.elim⟩
theorem cs_min1 (hK : G.K = X.K) (hc : X.calm = true) : CallS X G (.builtin "min") bMin1 := ⟨_, cr_min hc, fun ρ h H xs ds Q W hr r p => by
  cases r with
  | nil => exact False.elim p
  | cons a r' =>
    cases r' with
    | cons _ _ => exact False.elim p
    | nil =>
      simp only [bMin1] at p
      split at p
      · rename_i i is e
        obtain ⟨_, ds, vs, rfl, g1, g2, g3⟩ := lst_arg hr a e
        have z := ints_ok g2 g3
        subst z
        refine ⟨_, _, rfl, hK ▸ g1, by simp, fun m hm hy => ?_⟩
        obtain ⟨h1, h2, h3⟩ := minL_le is i
        have em : m = minL i is := by
          have a1 := hy (minL i is) (by rcases h3 with h3 | h3 <;> simp [h3])
          have a2 : minL i is ≤ m := by
            rcases List.mem_cons.mp hm with q | q
            · omega
            · exact h2 m q
          omega
        rw [em]
        exact post_here p hr (.int _)
      · exact p.elim⟩
end
section
variable {X : Cx} {G : Gx} {W : WX} {pos p : Pos} {tg a : Expr} {da : Den}
theorem ie_rev (hK : G.K = X.K) {k : Nat} {p1 p2 p3 : Pos} (ha : PE X a (tI G W da)) : PE X (.Subscript a (.Slice none none (some (.UnaryOp .USub (.Constant (.int 1) k p1) p2)) p3) pos) (tI G W (dUn oRev da)) := by
  refine pe_imp (pe_revL ha) fun σ H Q ⟨ρ, h, e, hr, er, p⟩ => ?_
  refine tI.intro hr er (Post.bind p) fun ρ1 h1 H1 x v l1 hr1 r1 p1 => ?_
  unfold oRev at p1
  split at p1
  · rename_i xs g
    obtain ⟨_, vs, rfl, g1, g2⟩ := list_ok hr1 r1 g
    refine ⟨_, _, rfl, hK ▸ g1, fun l hl => post_lst p1 hr1 ?_ hl⟩
    exact RDs.reverse g2
  · exact p1.elim
/-- a walk from the end, of what stands still -/
theorem rev_tup {ρ0 : List Addr} {H0 : Hp} {a : Addr} {vs : List V} {ds : List D} (hs : SqT G.K H0 a vs) (r : RDs G ρ0 H0 vs ds) : ItOk G ρ0 H0 (.its ds.reverse) (RT.ItvT G.K a vs.length) := by
  intro ρ h H l hr _ i
  have hs' := l.tup _ _ hs
  have r' := r.mono l
  refine ⟨fun d e => ?_, fun hi => ?_⟩
  · obtain ⟨hi, e2⟩ := List.getElem?_eq_some_iff.mp e
    have hi : i < ds.length := by simpa [Wk.items] using hi
    have e : ds.reverse[i]? = some d := e
    rw [List.getElem?_reverse hi, ← r.length] at e
    obtain ⟨v, g1, g2⟩ := r'.get e
    refine ⟨⟨by rw [r.length]; exact hi, vs, v, hs', g1⟩, fun x H' hy => ?_⟩
    obtain ⟨rfl, hy⟩ := hy
    have e2 := hy vs hs'
    rw [g1] at e2
    cases e2
    exact ⟨ρ, Le.refl, hr, g2⟩
  · show vs.length ≤ i
    rw [r.length]
    simpa [Wk.items] using hi
theorem rev_rl {ρ0 : List Addr} {H0 : Hp} {a : Addr} {vs : List V} {ds : List D} (hs : SqR G.K H0 a vs) (r : RDs G ρ0 H0 vs ds) : ItOk G ρ0 H0 (.its ds.reverse) (Itv G.K a vs.length) := by
  intro ρ h H l hr _ i
  have hs' := (l.rol _ _ hs).sq
  have r' := r.mono l
  refine ⟨fun d e => ?_, fun hi => ?_⟩
  · obtain ⟨hi, e2⟩ := List.getElem?_eq_some_iff.mp e
    have hi : i < ds.length := by simpa [Wk.items] using hi
    have e : ds.reverse[i]? = some d := e
    rw [List.getElem?_reverse hi, ← r.length] at e
    obtain ⟨v, g1, g2⟩ := r'.get e
    refine ⟨⟨by rw [r.length]; exact hi, vs, v, hs', g1⟩, fun x H' hy => ?_⟩
    obtain ⟨rfl, hy⟩ := hy
    have e2 := hy vs hs'
    rw [g1] at e2
    cases e2
    exact ⟨ρ, Le.refl, hr, g2⟩
  · show vs.length ≤ i
    rw [r.length]
    simpa [Wk.items] using hi
theorem rev_lst {ρ0 : List Addr} {H0 : Hp} {n : Nat} {a : Addr} {ds : List D} (q : ρ0[n]? = some a) : ItOk G ρ0 H0 (.rvl n ds) (Itv G.K a ds.length) := by
  intro ρ h H l hr st i
  have q' := l.at q
  have e : lstAt h n = some ds := by
    simp only [Wk.still] at st
    split at st
    · rename_i ys g
      rw [g, D.sameL_eq _ _ st]
    · cases st
  obtain ⟨vs, g1, r'⟩ := sql_of hr q' e
  refine ⟨fun d e => ?_, fun hi => ?_⟩
  · obtain ⟨hi, e2⟩ := List.getElem?_eq_some_iff.mp e
    have hi : i < ds.length := by simpa [Wk.items] using hi
    have e : ds.reverse[i]? = some d := e
    rw [List.getElem?_reverse hi] at e
    obtain ⟨v, g3, g2⟩ := r'.get e
    refine ⟨⟨hi, vs, v, SqL.of g1, g3⟩, fun x H' hy => ?_⟩
    obtain ⟨rfl, hy⟩ := hy
    have e2 := hy vs (SqL.of g1)
    rw [g3] at e2
    cases e2
    exact ⟨ρ, Le.refl, hr, g2⟩
  · show ds.length ≤ i
    simpa [Wk.items] using hi
theorem iw_rev (hK : G.K = X.K) (ha : PE X a (tI G W da)) (hm : X.mg "reversed" = none) (hg : Gl X "reversed" := by rfl) (hs : starEach [a] X.env = (false, eval a X.env) :: starEach [] X.env := by rfl) : PI X tg (.Call (.Name "reversed" p) [a] [] pos) (tW G W (wRev da)) := by
  refine pi_imp (RT.pi_revA hg hm ha hs) fun σ H R ⟨ρ, h, e, hr, er, p⟩ => ?_
  refine tI.intro hr er (PostW.bind p) fun ρ1 h1 H1 x v l1 hr1 r1 p1 => ?_
  cases r1 with
  | tup hs rs => exact ⟨_, _, rfl, .inr ⟨hK ▸ hs, p1 ρ1 H1 _ Le.refl hr1 (hK ▸ rev_tup hs rs)⟩⟩
  | rl hs rs => exact ⟨_, _, rfl, .inl ⟨hK ▸ hs.sq, p1 ρ1 H1 _ Le.refl hr1 (hK ▸ rev_rl hs rs)⟩⟩
  | ref q =>
    simp only at p1
    split at p1
    · rename_i xs g
      obtain ⟨vs, g1, g2⟩ := sql_of hr1 q g
      refine ⟨_, _, rfl, .inl ⟨SqL.of g1, p1 ρ1 H1 _ Le.refl hr1 ?_⟩⟩
      rw [g2.length, ← hK]
      exact rev_lst q
    · exact p1.elim
  | _ => exact False.elim p1
end
end PI
/-! ## PiD -/
set_option Elab.async false
set_option linter.all false
set_option maxRecDepth 100000
set_option maxHeartbeats 1000000
set_option autoImplicit false
/-! PI: dicts keyed by ints and texts. -/
namespace PI
open PySem L2
section
variable {G : Gx} {ρ : List Addr} {H : Hp} {h : Hh}
theorem key_ok {v : V} {d : D} {k : Ky} (r : RD G ρ H v d) (e : keyOf d = some k) : v = kV (kyV k) := by
  cases r with
  | int i => cases e; rfl
  | str x =>
    cases e
    rfl
  | _ => cases e
theorem valK_ok {ks : List (Key × V)} {kvs : List (Ky × D)} (r : RK kyV G ρ H ks kvs) (k : Ky) : (valV ks (kyV k) = none ∧ valK kvs k = none) ∨ ∃ v d, valV ks (kyV k) = some v ∧ valK kvs k = some d ∧ RD G ρ H v d := by
  induction r with
  | nil => exact .inl ⟨valV_nil, rfl⟩
  | @cons q v d r s rd rr ih =>
    by_cases c : q = k
    · exact .inr ⟨v, d, valV_pos (congrArg kyV c), by rw [valK, if_pos c], rd⟩
    · have c' : ¬ kyV q = kyV k := fun z => c (kyV_inj z)
      rw [show valV ((kyV q, v) :: r) (kyV k) = valV r (kyV k) from valV_neg c', show valK ((q, d) :: s) k = valK s k by rw [valK, if_neg c]]
      exact ih
theorem setK_any {ks : List (Key × V)} {kvs : List (Ky × D)} (r : RK kyV G ρ H ks kvs) (k : Ky) : (ks.any fun kv => decide (kv.1 = kyV k)) = kvs.any fun kv => decide (kv.1 = k) := by
  induction r with
  | nil => rfl
  | @cons q v d r s rd rr ih =>
    rw [List.any_cons, List.any_cons, ih]
    congr 1
    by_cases c : q = k
    · rw [decide_eq_true (show (q, d).1 = k from c), decide_eq_true (show (kyV q, v).1 = kyV k from congrArg kyV c)]
    · rw [decide_eq_false (show ¬ (q, d).1 = k from c), decide_eq_false (show ¬ (kyV q, v).1 = kyV k from fun z => c (kyV_inj z))]
theorem RK.mapSet {v : V} {d : D} (rd : RD G ρ H v d) (k : Ky) {ks : List (Key × V)} {kvs : List (Ky × D)} (r : RK kyV G ρ H ks kvs) : RK kyV G ρ H (ks.map fun kv => if kv.1 = kyV k then (kv.1, v) else kv) (kvs.map fun kv => if kv.1 = k then (kv.1, d) else kv) := by
  induction r with
  | nil => exact .nil
  | @cons q v' d' r s rd' rr ih =>
    rw [List.map_cons, List.map_cons]
    by_cases c : q = k
    · rw [if_pos (show (q, d').1 = k from c), if_pos (show (kyV q, v').1 = kyV k from congrArg kyV c)]
      exact .cons rd ih
    · rw [if_neg (show ¬ (q, d').1 = k from c), if_neg (show ¬ (kyV q, v').1 = kyV k from fun z => c (kyV_inj z))]
      exact .cons rd' ih
theorem RK.snoc {v : V} {d : D} (rd : RD G ρ H v d) (k : Ky) {ks : List (Key × V)} {kvs : List (Ky × D)} (r : RK kyV G ρ H ks kvs) : RK kyV G ρ H (ks ++ [(kyV k, v)]) (kvs ++ [(k, d)]) := by
  induction r with
  | nil => exact .cons rd .nil
  | cons rd' rr ih => exact .cons rd' ih
theorem RK.put {v : V} {d : D} (rd : RD G ρ H v d) (k : Ky) {ks : List (Key × V)} {kvs : List (Ky × D)} (r : RK kyV G ρ H ks kvs) : RK kyV G ρ H (putK ks (kyV k) v) (setK kvs k d) := by
  unfold putK setK
  rw [setK_any r k]
  split
  · exact r.mapSet rd k
  · exact r.snoc rd k
theorem dk_of {n : Nat} {a : Addr} {kvs : List (Ky × D)} (hr : HR G ρ h H) (q : ρ[n]? = some a) (e : dkAt h n = some kvs) : h[n]? = some (.dk kvs) ∧ ∃ ks, H a = some (.dK ks) ∧ RK kyV G ρ H ks kvs := by
  unfold dkAt at e
  split at e
  · rename_i z g
    cases e
    exact ⟨g, hr.ok _ _ _ q g⟩
  · cases e
/-- what dkGet tells -/
theorem dget_ok {vx vy : V} {x y : D} {o : Option D} (hr : HR G ρ h H) (rx : RD G ρ H vx x) (ry : RD G ρ H vy y) (e : dkGet h x y = some o) : ∃ a ov, vx = .ref a ∧ DGet H a vy ov ∧ ((ov = none ∧ o = none) ∨ ∃ v d, ov = some v ∧ o = some d ∧ RD G ρ H v d) := by
  unfold dkGet at e
  split at e
  · rename_i n k q
    split at e
    · rename_i kvs g
      cases e
      cases rx with
      | ref q1 =>
        obtain ⟨_, ks, g1, g2⟩ := dk_of hr q1 g
        have ek := key_ok ry q
        subst ek
        refine ⟨_, _, rfl, DGet.k g1, ?_⟩
        rcases valK_ok g2 k with ⟨h1, h2⟩ | ⟨v, d, h1, h2, h3⟩
        · exact .inl ⟨h1, h2⟩
        · exact .inr ⟨v, d, h1, h2, h3⟩
    · cases e
  · cases e
end
section
variable {X : Cx} {G : Gx} {W : WX} {pos : Pos} {a b c : Expr} {da db dc : Den}
theorem ie_dget (hu : X.A.units + 1 < cLine) (ha : PE X a (tI G W da)) (hb : PE X b (tI G W db)) (hs : NoSl b := by intro _ _; rfl) : PE X (.Subscript a b pos) (tI G W (dDGet da db)) := by
  refine pe_imp (pe_dget hu ha hb hs) fun σ H Q ⟨ρ, h, e, hr, er, p⟩ => ?_
  refine tI.intro hr er (Post.bind p) fun ρ1 h1 H1 x v l1 hr1 r1 p1 => ?_
  refine tI.intro hr1 (er.mono l1) (Post.bind p1) fun ρ2 h2 H2 y w l2 hr2 r2 p2 => ?_
  split at p2
  · rename_i d q
    obtain ⟨p0, ov, e0, g, hh⟩ := dget_ok hr2 (r1.mono l2) r2 q
    rcases hh with ⟨_, z⟩ | ⟨v0, d0, z1, z2, z3⟩
    · cases z
    · cases z2
      subst z1
      exact ⟨p0, v0, e0, g, post_here p2 hr2 z3⟩
  · exact p2.elim
theorem din_gen {f : Option D → Bool} {fv : Option V → Bool} (hf : (fv none = f none) ∧ ∀ v d, fv (some v) = f (some d)) {σ : L2.St} {H : Hp} {Q : VK}
    (p : tI G W (fun e h => (da e h).bind fun y h1 => (db e h1).bind fun x h2 => match dkGet h2 x y with
      | some o => .ok (.bl (f o)) h2
      | none => .bad) σ H Q) : tI G W da σ H fun y H1 => tI G W db σ H1 fun x H2 => ∃ a o, x = .ref a ∧ DGet H2 a y o ∧ Q (.bl (fv o)) H2 := by
  obtain ⟨ρ, h, e, hr, er, p⟩ := p
  refine tI.intro hr er (Post.bind p) fun ρ1 h1 H1 x v l1 hr1 r1 p1 => ?_
  refine tI.intro hr1 (er.mono l1) (Post.bind p1) fun ρ2 h2 H2 y w l2 hr2 r2 p2 => ?_
  split at p2
  · rename_i o q
    obtain ⟨p0, ov, e0, g, hh⟩ := dget_ok hr2 r2 (r1.mono l2) q
    refine ⟨p0, ov, e0, g, ?_⟩
    rcases hh with ⟨z1, z2⟩ | ⟨v0, d0, z1, z2, z3⟩
    · subst z1 z2
      rw [hf.1]
      exact post_here p2 hr2 (.bl _)
    · subst z1 z2
      rw [hf.2 v0 d0]
      exact post_here p2 hr2 (.bl _)
  · exact p2.elim
theorem ie_din (hu : X.A.units + 1 < cLine) (ha : PE X a (tI G W da)) (hb : PE X b (tI G W db)) (hm : behindInMarks .In b = false := by first | rfl | with_unfolding_all rfl) : PE X (.Compare a [.In] [b] pos) (tI G W (dDIn da db)) :=
  pe_imp (pe_cmp (pc_din hu ha hb) hm) fun σ H Q p => din_gen (f := fun o => o.isSome) (fv := fun o => o.isSome) ⟨rfl, fun _ _ => rfl⟩ p
theorem ie_dnin (hu : X.A.units + 1 < cLine) (ha : PE X a (tI G W da)) (hb : PE X b (tI G W db)) (hm : behindInMarks .NotIn b = false := by first | rfl | with_unfolding_all rfl) : PE X (.Compare a [.NotIn] [b] pos) (tI G W (dDNin da db)) :=
  pe_imp (pe_cmp (pc_dnotin hu ha hb) hm) fun σ H Q p => din_gen (f := fun o => !o.isSome) (fv := fun o => !o.isSome) ⟨rfl, fun _ _ => rfl⟩ p
theorem it_of {t : TE} {d : Den} {e : Expr} (p : PT X e (tB t)) (h : ∀ σ H Q, tI G W d σ H Q → t σ H Q) : PT X e (tB' G W (tV d)) := pt_imp p fun σ H Q p => h σ H _ (tV_val p)
theorem it_din (hu : X.A.units + 1 < cLine) (ha : PE X a (tI G W da)) (hb : PE X b (tI G W db)) (hm : behindInMarks .In b = false := by first | rfl | with_unfolding_all rfl) : PT X (.Compare a [.In] [b] pos) (tB' G W (tV (dDIn da db))) :=
  it_of (pt_cmp (pc_din hu ha hb) hm) fun σ H Q p => din_gen (f := fun o => o.isSome) (fv := fun o => o.isSome) ⟨rfl, fun _ _ => rfl⟩ p
theorem it_dnin (hu : X.A.units + 1 < cLine) (ha : PE X a (tI G W da)) (hb : PE X b (tI G W db)) (hm : behindInMarks .NotIn b = false := by first | rfl | with_unfolding_all rfl) : PT X (.Compare a [.NotIn] [b] pos) (tB' G W (tV (dDNin da db))) :=
  it_of (pt_cmp (pc_dnotin hu ha hb) hm) fun σ H Q p => din_gen (f := fun o => !o.isSome) (fv := fun o => !o.isSome) ⟨rfl, fun _ _ => rfl⟩ p
theorem ie_dnewK : PE X (.Dict [] [] pos) (tI G W dNewK) := pe_imp pe_dnewK fun σ H Q ⟨ρ, h, e, hr, er, p⟩ q hq =>
  p (ρ ++ [q]) _ _ (Le.new1 hq) (hr.new hq ⟨[], upd_same, .nil⟩) (.ref (by rw [← hr.len]; simp))
theorem isDk_ok {ρ : List Addr} {h : Hh} {H : Hp} {v : V} {d : D} (hr : HR G ρ h H) (r : RD G ρ H v d) (e : isDk h d = true) : ∃ a, v = .ref a ∧ IsD H a := by
  cases d with
  | ref n =>
    unfold isDk at e
    obtain ⟨kvs, g⟩ := Option.isSome_iff_exists.mp e
    cases r with
    | ref q =>
      obtain ⟨_, ks, g1, _⟩ := dk_of hr q g
      exact ⟨_, rfl, .inl ⟨ks, .inl g1⟩⟩
  | _ => cases e
theorem ie_get1 {apos cpos : Pos} (hu : X.A.units + 1 < cLine) (ha : PE X a (tI G W da)) (hb : PE X b (tI G W db)) (m : M1 X a "get" apos b cpos := by exact ⟨rfl, rfl, rfl, rfl⟩) : PE X (.Call (.Attribute a "get" apos) [b] [] cpos) (tI G W (dGet1 da db)) := by
  refine pe_imp (pe_dget1 hu ha hb m) fun σ H Q ⟨ρ, h, e, hr, er, p⟩ => ?_
  refine tI.intro hr er (Post.bind p) fun ρ1 h1 H1 x v l1 hr1 r1 p1 => ?_
  split at p1
  · rename_i c
    obtain ⟨p0, e0, hd⟩ := isDk_ok hr1 r1 c
    refine ⟨p0, e0, hd, tI.intro hr1 (er.mono l1) (Post.bind p1) fun ρ2 h2 H2 y w l2 hr2 r2 p2 => ?_⟩
    split at p2
    · rename_i o q
      obtain ⟨p1, ov, e1, g, hh⟩ := dget_ok hr2 (r1.mono l2) r2 q
      rw [e0] at e1
      cases e1
      refine ⟨ov, g, ?_⟩
      rcases hh with ⟨z1, z2⟩ | ⟨v0, d0, z1, z2, z3⟩
      · subst z1 z2
        exact post_here p2 hr2 .non
      · subst z1 z2
        exact post_here p2 hr2 z3
    · exact p2.elim
  · exact p1.elim
theorem ie_get2 {apos cpos : Pos} (hu : X.A.units + 1 < cLine) (ha : PE X a (tI G W da)) (hb : PE X b (tI G W db)) (hc : PE X c (tI G W dc)) (m : M2 X a "get" apos b c cpos := by exact ⟨rfl, rfl, rfl, rfl⟩) : PE X (.Call (.Attribute a "get" apos) [b, c] [] cpos) (tI G W (dGet2 da db dc)) := by
  refine pe_imp (pe_dget2 hu ha hb hc m) fun σ H Q ⟨ρ, h, e, hr, er, p⟩ => ?_
  refine tI.intro hr er (Post.bind p) fun ρ1 h1 H1 x v l1 hr1 r1 p1 => ?_
  split at p1
  · rename_i cc
    obtain ⟨p0, e0, hd⟩ := isDk_ok hr1 r1 cc
    refine ⟨p0, e0, hd, tI.intro hr1 (er.mono l1) (Post.bind p1) fun ρ2 h2 H2 y w l2 hr2 r2 p2 => ?_⟩
    refine tI.intro hr2 ((er.mono l1).mono l2) (Post.bind p2) fun ρ3 h3 H3 z u l3 hr3 r3 p3 => ?_
    split at p3
    · rename_i o q
      obtain ⟨p1, ov, e1, g, hh⟩ := dget_ok hr3 ((r1.mono l2).mono l3) (r2.mono l3) q
      rw [e0] at e1
      cases e1
      refine ⟨ov, g, ?_⟩
      rcases hh with ⟨z1, z2⟩ | ⟨v0, d0, z1, z2, z3⟩
      · subst z1 z2
        exact post_here p3 hr3 r3
      · subst z1 z2
        exact post_here p3 hr3 z3
    · exact p3.elim
  · exact p1.elim
/-- d[y] = v lays what dkPut says -/
theorem dput_ok {ρ : List Addr} {h h' : Hh} {H : Hp} {vx vy v : V} {x y d : D} (hr : HR G ρ h H) (rx : RD G ρ H vx x) (ry : RD G ρ H vy y) (rd : RD G ρ H v d) (e : dkPut x y d h = .ok () h') : ∃ a H', vx = .ref a ∧ DPut H a vy v H' ∧ Le G ρ H ρ H' ∧ HR G ρ h' H' := by
  unfold dkPut at e
  split at e
  · rename_i n k q
    split at e
    · rename_i kvs g
      split at e
      · rename_i c
        cases e
        cases rx with
        | ref q1 =>
          obtain ⟨g0, ks, g1, g2⟩ := dk_of hr q1 g
          have ek := key_ok ry q
          subst ek
          rw [SLe, ← g2.length] at c
          have lt := Le.set (G := G) (ho := .dK (putK ks (kyV k) v)) (List.mem_of_getElem? q1) g1 rfl
          exact ⟨_, _, rfl, DPut.k g1 c, lt, hr.set q1 g0 g1 rfl ⟨_, upd_same, (RK.put rd k g2).mono lt⟩⟩
      · cases e
    · cases e
  · cases e
theorem dput_cases {x y d : D} {h : Hh} : dkPut x y d h = .bad ∨ ∃ h', dkPut x y d h = .ok () h' := by
  unfold dkPut
  split
  · split
    · split
      · exact .inr ⟨_, rfl⟩
      · exact .inl rfl
    · exact .inl rfl
  · exact .inl rfl
theorem is_dset {pos' : Pos} (hu : X.A.units + 1 < cLine) (ho : PE X a (tI G W da)) (hi : PE X b (tI G W db)) (hv : PE X c (tI G W dc)) (hs : swapsWith c (some (.Subscript a b pos')) pos.line X.env = pure false := by rfl) :
    PS X (.Assign [.Subscript a b pos'] c pos) (tS G W (sDSet da db dc)) := by
  refine ps_imp (ps_dput hu ho hi hv hs) fun D σ H ⟨ρ, h, e, hr, er, p⟩ => ?_
  refine tI.intro hr er (PostS.sb er p) fun ρ1 h1 H1 d v l1 hr1 r1 p1 => ?_
  refine tI.intro hr1 (er.mono l1) (PostS.sb (er.mono l1) p1) fun ρ2 h2 H2 x vx l2 hr2 r2 p2 => ?_
  have er2 := (er.mono l1).mono l2
  refine tI.intro hr2 er2 (PostS.sb er2 p2) fun ρ3 h3 H3 y vy l3 hr3 r3 p3 => ?_
  rcases dput_cases (x := x) (y := y) (d := d) (h := h3) with q | ⟨h4, q⟩
  · rw [q] at p3
    exact p3.elim
  · rw [q] at p3
    obtain ⟨a0, H4, e0, g, lt, hr4⟩ := dput_ok hr3 (r2.mono l3) r3 ((r1.mono l2).mono l3) q
    exact ⟨a0, H4, e0, g, p3 ρ3 H4 lt hr4 σ ((er2.mono l3).mono lt)⟩
def InS (X : Cx) (G : Gx) (op : Operator) (f : D → D → Hh → Res D) : Prop := ∃ rd : V → V → Hp → VK → Prop, InOp X op rd ∧
  ∀ ρ h H x y dx dy (Q : VK) (W : XK), HR G ρ h H → RD G ρ H x dx → RD G ρ H y dy → Post G ρ H Q W (f dx dy h) → rd x y H Q
theorem in_addI : InS X G .Add oIaddI := ⟨_, in_add, fun ρ h H x y dx dy Q W hr rx ry p => by
  cases rx <;> cases ry <;> first
    | exact False.elim p
    | exact ⟨_, _, rfl, rfl, post_here p hr (.int _)⟩⟩
theorem in_subI : InS X G .Sub oSub := ⟨_, in_sub, fun ρ h H x y dx dy Q W hr rx ry p => by
  cases rx <;> cases ry <;> first
    | exact False.elim p
    | exact ⟨_, _, rfl, rfl, post_here p hr (.int _)⟩⟩
theorem is_daug {tpos : Pos} {op : Operator} {f : D → D → Hh → Res D} (o : InS X G op f) (hu : X.A.units + 1 < cLine) (ho : PE X a (tI G W da)) (hi : PE X b (tI G W db)) (hv : PE X c (tI G W dc))
    (ha : ∀ ov iv new, augStore b ov iv new = (do holding [new, ov, iv] (setItem ov iv new); release [new, ov, iv] []; pure .next) := by intro _ _ _; rfl) : PS X (.AugAssign (.Subscript a b tpos) op c pos) (tS G W (sDAug f da db dc)) := by
  obtain ⟨rd, h1, h2⟩ := o
  refine ps_imp (ps_daug hu ho hi hv h1 ha) fun D σ H ⟨ρ, h, e, hr, er, p⟩ => ?_
  refine tI.intro hr er (PostS.sb er p) fun ρ1 h1' H1 x vx l1 hr1 r1 p1 => ?_
  refine tI.intro hr1 (er.mono l1) (PostS.sb (er.mono l1) p1) fun ρ2 h2' H2 y vy l2 hr2 r2 p2 => ?_
  have er2 := (er.mono l1).mono l2
  split at p2
  · rename_i v0 q
    obtain ⟨a0, ov, e0, g, hh⟩ := dget_ok hr2 (r1.mono l2) r2 q
    rcases hh with ⟨_, z⟩ | ⟨v1, d1, z1, z2, z3⟩
    · cases z
    · cases z2
      subst z1
      refine ⟨a0, v1, e0, g, tI.intro hr2 er2 (PostS.sb er2 p2) fun ρ3 h3 H3 w vw l3 hr3 r3 p3 => ?_⟩
      have er3 := er2.mono l3
      have p3' := PostS.sb er3 p3
      refine h2 ρ3 h3 H3 v1 vw _ w _ (fun c d H' => W c d σ H') hr3 (z3.mono l3) r3 ?_
      cases q2 : f v0 w h3 with
      | bad => rw [q2] at p3'; exact p3'
      | exc c fs h4 => rw [q2] at p3'; exact p3'
      | ok z h4 =>
        rw [q2] at p3'
        intro ρ4 vz H4 l4 hr4 r4
        have p4 : PostS G ρ4 H4 D W ((dkPut x y z h4).sb e fun _ h5 => .ok (.nx e) h5) := p3' ρ4 H4 l4 hr4
        rcases dput_cases (x := x) (y := y) (d := z) (h := h4) with q3 | ⟨h5, q3⟩
        · rw [q3] at p4
          exact p4.elim
        · rw [q3] at p4
          obtain ⟨a1, H5, e1, g5, lt, hr5⟩ := dput_ok hr4 (((r1.mono l2).mono l3).mono l4) ((r2.mono l3).mono l4) r4 q3
          rw [e0] at e1
          cases e1
          exact ⟨H5, g5, p4 ρ4 H5 lt hr5 σ ((er3.mono l4).mono lt)⟩
  · exact p2.elim
end
end PI
/-! ## PiE -/
set_option Elab.async false
set_option linter.all false
set_option maxRecDepth 100000
set_option maxHeartbeats 1000000
set_option autoImplicit false
/-! PI: zip, enumerate, str, index. -/
namespace PI
open PySem L2
section
variable {X : Cx} {G : Gx} {W : WX} {pos p : Pos} {a b : Expr} {da db : Den}
theorem zip_items {ρ0 : List Addr} {H0 : Hp} {p q : Addr} {vs ws : List V} {ds es : List D} (hs : SqT G.K H0 p vs) (r : RDs G ρ0 H0 vs ds) (hs2 : SqT G.K H0 q ws) (r2 : RDs G ρ0 H0 ws es) : ItOk G ρ0 H0 (.its (zipD ds es)) (RZ.ItzT G.K p q) := by
  intro ρ h H l hr _ i
  have a1 := l.tup _ _ hs
  have a2 := l.tup _ _ hs2
  have b1 := r.mono l
  have b2 := r2.mono l
  refine ⟨fun d e => ?_, fun hi => ⟨vs, ws, a1, a2, ?_⟩⟩
  · obtain ⟨x, y, ex, ey, rfl⟩ := zipD_at (show (zipD ds es)[i]? = some d from e)
    obtain ⟨v, g1, g2⟩ := b1.get ex
    obtain ⟨w, g3, g4⟩ := b2.get ey
    refine ⟨⟨vs, ws, v, w, a1, a2, g1, g3⟩, fun z H' hy => ?_⟩
    obtain ⟨T, v', w', rfl, hT, rfl, f1, f2⟩ := hy
    have e1 := f1 vs a1
    have e2 := f2 ws a2
    rw [g1] at e1
    rw [g3] at e2
    cases e1
    cases e2
    have lt := Le.new (G := G) (ρ := ρ) (ho := .tup [v, w]) hT
    exact ⟨ρ, lt, hr.beside hT, .tup (SqT.of upd_same) ((RDs.cons g2 (.cons g4 .nil)).mono lt)⟩
  · have := zipD_len ds es
    have hi : (zipD ds es).length ≤ i := hi
    rw [b1.length, b2.length]
    omega
theorem zip_lists {ρ0 : List Addr} {H0 : Hp} {m n : Nat} {p q : Addr} {ds es : List D} (q1 : ρ0[m]? = some p) (q2 : ρ0[n]? = some q) : ItOk G ρ0 H0 (.zpl m ds n es) (Itz G.K p q) := by
  intro ρ h H l hr st i
  have q1' := l.at q1
  have q2' := l.at q2
  have e : lstAt h m = some ds ∧ lstAt h n = some es := by
    simp only [Wk.still] at st
    split at st
    · rename_i us vs g1 g2
      rw [Bool.and_eq_true] at st
      exact ⟨by rw [g1, D.sameL_eq _ _ st.1], by rw [g2, D.sameL_eq _ _ st.2]⟩
    · cases st
  obtain ⟨vs, g1, b1⟩ := sql_of hr q1' e.1
  obtain ⟨ws, g2, b2⟩ := sql_of hr q2' e.2
  have a1 : SqL G.K H p vs := SqL.of g1
  have a2 : SqL G.K H q ws := SqL.of g2
  refine ⟨fun d e => ?_, fun hi => ⟨vs, ws, a1, a2, ?_⟩⟩
  · obtain ⟨x, y, ex, ey, rfl⟩ := zipD_at (show (zipD ds es)[i]? = some d from e)
    obtain ⟨v, g1, g2⟩ := b1.get ex
    obtain ⟨w, g3, g4⟩ := b2.get ey
    refine ⟨⟨vs, ws, v, w, a1, a2, g1, g3⟩, fun z H' hy => ?_⟩
    obtain ⟨T, v', w', rfl, hT, rfl, f1, f2⟩ := hy
    have e1 := f1 vs a1
    have e2 := f2 ws a2
    rw [g1] at e1
    rw [g3] at e2
    cases e1
    cases e2
    have lt := Le.new (G := G) (ρ := ρ) (ho := .tup [v, w]) hT
    exact ⟨ρ, lt, hr.beside hT, .tup (SqT.of upd_same) ((RDs.cons g2 (.cons g4 .nil)).mono lt)⟩
  · have := zipD_len ds es
    have hi : (zipD ds es).length ≤ i := hi
    rw [b1.length, b2.length]
    omega
theorem iw_zip {elts : List Expr} {kk : Nat} {tpos : Pos} (hK : G.K = X.K) (ha : PE X a (tI G W da)) (hb : PE X b (tI G W db)) (hm : X.mg "zip" = none) (hg : Gl X "zip" := by rfl)
    (he : starEach [a, b] X.env = (false, eval a X.env) :: starEach [b] X.env := by rfl) (he2 : starEach [b] X.env = (false, eval b X.env) :: starEach [] X.env := by rfl) (hpl : (backTo pos (starEach [b] X.env)).any (·.1) = false := by rfl) :
    PI X (.Tuple elts kk tpos) (.Call (.Name "zip" p) [a, b] [] pos) (tW G W (wZip da db)) := by
  refine pi_imp (RZ.pi_zipA hg hm (pa_cons ha (pa_cons hb pa_nil he2) he) he hpl) fun σ H R ⟨ρ, h, e, hr, er, p⟩ => ?_
  refine tI.intro hr er (PostW.bind p) fun ρ1 h1 H1 x v l1 hr1 r1 p1 => ?_
  refine tI.intro hr1 (er.mono l1) (PostW.bind p1) fun ρ2 h2 H2 y w l2 hr2 r2 p2 => ?_
  have r1' := r1.mono l2
  cases r1' with
  | tup s1 q1 =>
    cases r2 with
    | tup s2 q2 => exact ⟨_, _, _, _, rfl, .inr ⟨hK ▸ s1, hK ▸ s2, p2 ρ2 H2 _ Le.refl hr2 (hK ▸ zip_items s1 q1 s2 q2)⟩⟩
    | _ => exact False.elim p2
  | ref q1 =>
    cases r2 with
    | ref q2 =>
      simp only at p2
      split at p2
      · rename_i xs ys g1 g2
        obtain ⟨vs, g3, _⟩ := sql_of hr2 q1 g1
        obtain ⟨ws, g4, _⟩ := sql_of hr2 q2 g2
        exact ⟨_, _, _, _, rfl, .inl ⟨SqL.of g3, SqL.of g4, p2 ρ2 H2 _ Le.refl hr2 (hK ▸ zip_lists q1 q2)⟩⟩
      · exact p2.elim
    | _ => exact False.elim p2
  | _ => exact False.elim p2
end
section
variable {X : Cx} {G : Gx}
theorem cs_str : CallS X G (.type "str") bStr := ⟨_, call_str_int, fun ρ h H xs ds Q W hr r p => by
  cases r with
  | nil => exact False.elim p
  | cons a r' =>
    cases r' with
    | cons _ _ => cases a <;> exact False.elim p
    | nil =>
      cases a with
      | int i =>
        simp only [bStr] at p
        split at p
        · rename_i c
          exact ⟨i, rfl, c, post_here p hr (rd_str (by
            show (Str.ofString (toString i)).cps.toList = decStr i
            rw [Str.ofString_eq_toList]
            rfl))⟩
        · exact p.elim
      | _ => exact False.elim p⟩
theorem idxOf_ok {d : D} : ∀ {xs : List D} {j : Nat}, idxOf d xs = some j → ∃ z, xs[j]? = some z ∧ D.eqv z d = true ∧ ∀ m z', m < j → xs[m]? = some z' → D.eqv z' d = false
  | [], _, e => by cases e
  | y :: ys, j, e => by
    rw [idxOf] at e
    split at e
    · rename_i c
      cases e
      exact ⟨y, rfl, c, fun m _ hm => absurd hm (by omega)⟩
    · rename_i c
      rw [Option.map_eq_some_iff] at e
      obtain ⟨k, e1, rfl⟩ := e
      obtain ⟨z, h1, h2, h3⟩ := idxOf_ok e1
      refine ⟨z, by simpa using h1, h2, fun m z' hm hz => ?_⟩
      cases m with
      | zero =>
        simp at hz
        rw [← hz]
        simpa using c
      | succ m => exact h3 m z' (by omega) (by simpa using hz)
theorem toPL_at : ∀ {xs : List D} {j : Nat} {z : D}, xs[j]? = some z → (toPL xs)[j]? = some (toP z)
  | [], _, _, e => by simp at e
  | x :: xs, 0, z, e => by
    simp at e
    rw [← e]
    rfl
  | x :: xs, j + 1, z, e => by
    have q := toPL_at (xs := xs) (j := j) (z := z) (by simpa using e)
    simpa [toPL] using q
theorem toPL_atR : ∀ {xs : List D} {j : Nat} {y : PyData}, (toPL xs)[j]? = some y → ∃ z, xs[j]? = some z ∧ y = toP z
  | [], _, _, e => by simp [toPL] at e
  | x :: xs, 0, y, e => by
    simp [toPL] at e
    exact ⟨x, rfl, e.symm⟩
  | x :: xs, j + 1, y, e => by
    obtain ⟨z, h1, h2⟩ := toPL_atR (xs := xs) (j := j) (y := y) (by simpa [toPL] using e)
    exact ⟨z, by simpa using h1, h2⟩
theorem flatL_at : ∀ {xs : List D} {j : Nat} {z : D}, D.flatL xs = true → xs[j]? = some z → z.flat = true
  | [], _, _, _, e => by simp at e
  | x :: xs, 0, z, h, e => by
    simp at e
    rw [D.flatL, Bool.and_eq_true] at h
    rw [← e]
    exact h.1
  | x :: xs, j + 1, z, h, e => by
    rw [D.flatL, Bool.and_eq_true] at h
    exact flatL_at h.2 (by simpa using e)
theorem ms_index (hK : G.K = X.K) (hu : X.A.units + 65 < cLine) : MethS X G "list.index" mIndex := ⟨_, mt_indexD hu, fun ρ h H x dx xs ds Q W hr rx r p => by
  cases r with
  | nil => exact False.elim p
  | cons a r' =>
    cases r' with
    | cons _ _ => exact False.elim p
    | nil =>
      simp only [mIndex] at p
      split at p
      · rename_i ys e1
        split at p
        · rename_i f
          rw [Bool.and_eq_true] at f
          split at p
          · rename_i j e2
            obtain ⟨l, vs, rfl, h1, r1⟩ := list_ok hr rx e1
            obtain ⟨z, g1, g2, g3⟩ := idxOf_ok e2
            have ff := fit_flatL f.1
            have fd := fit_flat f.2
            refine ⟨_, _, _, _, j, _, rfl, rfl, hK ▸ .lst h1 (rds_dp r1 ff), hK ▸ rd_dp a fd, shaped_fitL f.1, shaped_fit f.2, toPL_at g1, ?_, fun m z' hm hz => ?_, post_here p hr (.int _)⟩
            · rw [toP_eqv _ _ (flatL_at ff g1) fd]
              exact g2
            · obtain ⟨y, q1, rfl⟩ := toPL_atR hz
              rw [toP_eqv _ _ (flatL_at ff q1) fd]
              exact g3 m y hm q1
          · exact p.elim
        · exact p.elim
      · exact p.elim⟩
end
end PI
/-! ## PiZ -/
set_option Elab.async false
set_option linter.all false
set_option maxRecDepth 100000
set_option maxHeartbeats 2000000
set_option autoImplicit false
/-! PI: list(zip(x, y)) of two tuples. -/
namespace PI
open PySem
/-! ### next, while the tuple that was given out is still there -/
section
variable {prog : Program} {w : World} {A : Around} {E : Value → Shared → Prop} {s : Shared} {z TI TO T i1 i2 l1 l2 : Addr} {f : Bool} {oT : Obj} {k1 k2 : Nat} {xs ys : Array Value} {x y : Value}
theorem zh_item {Q : Value → Shared → Prop} (D : ZipApart z TI TO i1 i2 l1 l2) (hz : IsZipHeld s.heap z TI TO T f) (hT : s.heap.get? T = some oT) (hI : IsPair s.heap TI (.ref i1) (.ref i2))
    (h1 : s.heap.IsTupleIter i1 l1 k1) (h2 : s.heap.IsTupleIter i2 l2 k2) (hl1 : s.heap.IsTuple l1 xs) (hl2 : s.heap.IsTuple l2 ys) (hx : xs[k1]? = some x) (hy : ys[k2]? = some y)
    (hQ : ∀ g, IsZipHeld g z TI TO T true → g.IsTupleIter i1 l1 (k1 + 1) → g.IsTupleIter i2 l2 (k2 + 1) → IsPair g s.heap.objs.size x y → g.objs.size = s.heap.objs.size + 1 →
      (∀ c o, c ≠ z → c ≠ i1 → c ≠ i2 → s.heap.get? c = some o → g.get? c = some o) → Q (.ref s.heap.objs.size) { s with heap := g }) :
    wpAny (model prog w) A (Builtin.«zip.__next__» ⟨[.ref z], []⟩) (fun fin t => ∃ v, fin = .done (.ret v) ∧ Q v t) E s := by
  show wpAny _ _ (field (.ref z) 2 >>= _) _ _ _
  refine wpAny_bind (wpAny_field hz rfl (x := .bool false) rfl ?_)
  show wpAny _ _ (field (.ref z) 3 >>= _) _ _ _
  refine wpAny_bind (wpAny_field hz rfl (x := .ref TI) rfl (wpAny_bind (wpAny_seqItems hI rfl ?_)))
  show wpAny _ _ (Builtin.SmallTypes.ownedTupleIsFree (.ref z) >>= _) _ _ _
  refine wpAny_bind (wpAny_tupleHeld_zip hz hT fun g1 hz1 hs1 => ?_)
  simp only [Bool.false_eq_true, if_false]
  refine wpAny_bind ?_
  rw [← Array.forIn_toList]
  simp only [List.forIn_cons, List.forIn_nil]
  refine wpAny_bind (wpAny_bind (wpAny_holding ?_))
  show wpAny _ _ (Builtin.SmallTypes.nextOf (.ref i1) >>= _) _ _ _
  refine wpAny_bind (RZ.nextOf_tuple_item (s := { s with heap := g1 }) (h1.at fun o e => hs1.extBut _ _ D.i1z e) (show g1.IsTuple l1 xs from hl1.at fun o e => hs1.extBut _ _ D.l1z e) hx fun g2 h1' hs2 => wpAny_pure (wpAny_pure ?_))
  refine wpAny_bind (wpAny_bind (wpAny_holding ?_))
  show wpAny _ _ (Builtin.SmallTypes.nextOf (.ref i2) >>= _) _ _ _
  refine wpAny_bind (RZ.nextOf_tuple_item (s := { s with heap := g2 }) (h2.at fun o e => hs2.extBut _ _ D.i12.symm (hs1.extBut _ _ D.i2z e)) (show g2.IsTuple l2 ys from hl2.at fun o e => hs2.extBut _ _ D.l2i1 (hs1.extBut _ _ D.l2z e)) hy fun g3 h2' hs3 => wpAny_pure (wpAny_pure (wpAny_pure ?_)))
  show wpAny _ _ (newTuple [x, y] >>= _) _ _ _
  refine wpAny_bind (wpAny_newTuple ?_)
  have hsz : g3.objs.size = s.heap.objs.size := by rw [hs3.1, hs2.1, hs1.1]
  have hz3 : IsZipHeld g3 z TI TO T true := hs3.extBut _ _ D.i2z.symm (hs2.extBut _ _ D.i1z.symm hz1)
  have hk : ∀ c o, c ≠ z → c ≠ i1 → c ≠ i2 → s.heap.get? c = some o → g3.get? c = some o := fun c o c1 c2 c3 e => hs3.extBut _ _ c3 (hs2.extBut _ _ c2 (hs1.extBut _ _ c1 e))
  have h1'' : g3.IsTupleIter i1 l1 (k1 + 1) := h1'.at fun o e => hs3.extBut _ _ D.i12 e
  refine wpAny_pure ⟨_, rfl, ?_⟩
  show Q (.ref g3.objs.size) _
  have hp : IsPair (g3.push { cls := .type "tuple", data := .seq #[x, y] }) g3.objs.size x y := Heap.get?_push_size _ rfl
  have hz4 : (g3.push { cls := .type "tuple", data := .seq #[x, y] }).objs.size = g3.objs.size + 1 := Heap.size_push ..
  rw [hsz] at hp hz4 ⊢
  exact hQ _ (Heap.get?_push_of_some _ hz3) (h1''.at fun o e => Heap.get?_push_of_some _ e) (h2'.at fun o e => Heap.get?_push_of_some _ e) hp hz4 fun c o c1 c2 c3 e => Heap.get?_push_of_some _ (hk c o c1 c2 c3 e)
theorem zh_end {Q : Fin → Shared → Prop} (hh : A.handled = none) (D : ZipApart z TI TO i1 i2 l1 l2) (hz : IsZipHeld s.heap z TI TO T f) (hT : s.heap.get? T = some oT) (hI : IsPair s.heap TI (.ref i1) (.ref i2))
    (h1 : s.heap.IsTupleIter i1 l1 k1) (h2 : s.heap.IsTupleIter i2 l2 k2) (hl1 : s.heap.IsTuple l1 xs) (hl2 : s.heap.IsTuple l2 ys) (hend : xs[k1]? = none ∨ ys[k2]? = none)
    (hE : ∀ g e, (∀ c o, c ≠ z → c ≠ i1 → c ≠ i2 → s.heap.get? c = some o → g.get? c = some o) → (∃ o, g.get? e = some o ∧ o.cls = .type "StopIteration") → E (.ref e) { s with heap := g }) :
    wpAny (model prog w) A (Builtin.«zip.__next__» ⟨[.ref z], []⟩) Q E s := by
  show wpAny _ _ (field (.ref z) 2 >>= _) _ _ _
  refine wpAny_bind (wpAny_field hz rfl (x := .bool false) rfl ?_)
  show wpAny _ _ (field (.ref z) 3 >>= _) _ _ _
  refine wpAny_bind (wpAny_field hz rfl (x := .ref TI) rfl (wpAny_bind (wpAny_seqItems hI rfl ?_)))
  show wpAny _ _ (Builtin.SmallTypes.ownedTupleIsFree (.ref z) >>= _) _ _ _
  refine wpAny_bind (wpAny_tupleHeld_zip hz hT fun g1 hz1 hs1 => ?_)
  simp only [Bool.false_eq_true, if_false]
  refine wpAny_bind ?_
  rw [← Array.forIn_toList]
  simp only [List.forIn_cons, List.forIn_nil]
  refine wpAny_bind (wpAny_bind (wpAny_holding ?_))
  show wpAny _ _ (Builtin.SmallTypes.nextOf (.ref i1) >>= _) _ _ _
  have a1 : g1.IsTupleIter i1 l1 k1 := h1.at fun o e => hs1.extBut _ _ D.i1z e
  have b1 : g1.IsTuple l1 xs := hl1.at fun o e => hs1.extBut _ _ D.l1z e
  cases hx : xs[k1]? with
  | none =>
    refine wpAny_bind (RZ.nextOf_tuple_end (s := { s with heap := g1 }) hh a1 b1 hx fun g2 e hs2 he => ?_)
    exact hE g2 e (fun c o c1 c2 _ x => hs2 _ _ c2 (hs1.extBut _ _ c1 x)) he
  | some x =>
    have hy : ys[k2]? = none := by
      rcases hend with h | h
      · rw [hx] at h
        cases h
      · exact h
    refine wpAny_bind (RZ.nextOf_tuple_item (s := { s with heap := g1 }) a1 b1 hx fun g2 h1' hs2 => wpAny_pure (wpAny_pure ?_))
    refine wpAny_bind (wpAny_bind (wpAny_holding ?_))
    show wpAny _ _ (Builtin.SmallTypes.nextOf (.ref i2) >>= _) _ _ _
    refine wpAny_bind (RZ.nextOf_tuple_end (s := { s with heap := g2 }) hh (h2.at fun o e => hs2.extBut _ _ D.i12.symm (hs1.extBut _ _ D.i2z e)) (show g2.IsTuple l2 ys from hl2.at fun o e => hs2.extBut _ _ D.l2i1 (hs1.extBut _ _ D.l2z e)) hy fun g3 e hs3 he => ?_)
    exact hE g3 e (fun c o c1 c2 c3 x => hs3 _ _ c3 (hs2.extBut _ _ c2 (hs1.extBut _ _ c1 x))) he
end
/-- the zip z over the tuples l1, l2 at its i-th turn -/
def ZS (z TI TO i1 i2 l1 l2 : Addr) (xs ys : Array Value) (h : Heap) (i : Nat) : Prop :=
  IsPair h TI (.ref i1) (.ref i2) ∧ h.IsTupleIter i1 l1 i ∧ h.IsTupleIter i2 l2 i ∧ h.IsTuple l1 xs ∧ h.IsTuple l2 ys ∧
    ((IsZip h z TI TO .none ∧ ∃ a b, IsPair h TO a b) ∨ ∃ (T : Addr) (f : Bool) (oT : Obj), IsZipHeld h z TI TO T f ∧ h.get? T = some oT ∧ T ≠ z ∧ T ≠ TO ∧ T ≠ i1 ∧ T ≠ i2)
section
variable {prog : Program} {w : World} {A : Around} {E : Value → Shared → Prop} {s : Shared} {z TI TO i1 i2 l1 l2 : Addr} {i : Nat} {xs ys : Array Value} {x y : Value}
theorem ZS.move {h h' : Heap} (D : ZipApart z TI TO i1 i2 l1 l2) (st : ZS z TI TO i1 i2 l1 l2 xs ys h i) (k : ∀ b o, h.get? b = some o → (b = TI ∨ b = i1 ∨ b = i2 ∨ b = l1 ∨ b = l2 ∨ b = z ∨ b = TO ∨ True) → h'.get? b = some o) : ZS z TI TO i1 i2 l1 l2 xs ys h' i := by
  obtain ⟨a1, a2, a3, a4, a5, a6⟩ := st
  have kk : ∀ b o, h.get? b = some o → h'.get? b = some o := fun b o e => k b o e (by simp)
  refine ⟨kk _ _ a1, a2.at fun o e => kk _ o e, a3.at fun o e => kk _ o e, a4.at fun o e => kk _ o e, a5.at fun o e => kk _ o e, ?_⟩
  rcases a6 with ⟨b1, a, b, b2⟩ | ⟨T, f, oT, b1, b2, r⟩
  · exact .inl ⟨kk _ _ b1, a, b, kk _ _ b2⟩
  · exact .inr ⟨T, f, oT, kk _ _ b1, kk _ _ b2, r⟩
/-- what is not S stays: S is none of the zip's -/
theorem ZS.off {h h' : Heap} {S : Addr} (D : ZipApart z TI TO i1 i2 l1 l2) (st : ZS z TI TO i1 i2 l1 l2 xs ys h i) (hS : TI ≠ S ∧ i1 ≠ S ∧ i2 ≠ S ∧ l1 ≠ S ∧ l2 ≠ S ∧ z ≠ S ∧ TO ≠ S) (hT : ∀ o, h.get? S = some o → ∃ o', h'.get? S = some o') (k : ∀ b o, b ≠ S → h.get? b = some o → h'.get? b = some o) : ZS z TI TO i1 i2 l1 l2 xs ys h' i := by
  obtain ⟨a1, a2, a3, a4, a5, a6⟩ := st
  obtain ⟨s1, s2, s3, s4, s5, s6, s7⟩ := hS
  refine ⟨k _ _ s1 a1, a2.at fun o e => k _ o s2 e, a3.at fun o e => k _ o s3 e, a4.at fun o e => k _ o s4 e, a5.at fun o e => k _ o s5 e, ?_⟩
  rcases a6 with ⟨b1, a, b, b2⟩ | ⟨T, f, oT, b1, b2, r⟩
  · exact .inl ⟨k _ _ s6 b1, a, b, k _ _ s7 b2⟩
  · by_cases e : T = S
    · subst e
      obtain ⟨o', q⟩ := hT _ b2
      exact .inr ⟨T, f, o', k _ _ s6 b1, q, r⟩
    · exact .inr ⟨T, f, oT, k _ _ s6 b1, k _ _ e b2, r⟩
theorem ZS.lt {h : Heap} (st : ZS z TI TO i1 i2 l1 l2 xs ys h i) : z < h.objs.size ∧ i1 < h.objs.size ∧ i2 < h.objs.size := by
  obtain ⟨a1, ⟨_, e1, _⟩, ⟨_, e2, _⟩, a4, a5, a6⟩ := st
  refine ⟨?_, Heap.lt_size e1, Heap.lt_size e2⟩
  rcases a6 with ⟨b1, _⟩ | ⟨T, f, oT, b1, _⟩
  · exact Heap.lt_size b1
  · exact Heap.lt_size b1
theorem zs_item {Q : Option Value → Shared → Prop} (D : ZipApart z TI TO i1 i2 l1 l2) (hTO : TO < s.heap.objs.size) (st : ZS z TI TO i1 i2 l1 l2 xs ys s.heap i) (hx : xs[i]? = some x) (hy : ys[i]? = some y)
    (hQ : ∀ g, ZS z TI TO i1 i2 l1 l2 xs ys g (i + 1) → IsPair g s.heap.objs.size x y → g.objs.size = s.heap.objs.size + 1 → (∀ c o, c ≠ z → c ≠ TO → c ≠ i1 → c ≠ i2 → s.heap.get? c = some o → g.get? c = some o) → Q (some (.ref s.heap.objs.size)) { s with heap := g }) :
    wpAny (model prog w) A (pyNext (.ref z)) Q E s := by
  obtain ⟨lz, l_1, l_2⟩ := st.lt
  obtain ⟨a1, a2, a3, a4, a5, a6⟩ := st
  rcases a6 with ⟨b1, a, b, b2⟩ | ⟨T, f, oT, b1, b2, r1, r2, r3, r4⟩
  · refine RZ.pyNext_zipT_item D b1 a1 b2 a2 a3 a4 a5 hx hy fun g c1 c2 c3 c4 c5 c6 c7 => hQ g ⟨?_, c3, c4, ?_, ?_, .inr ⟨_, false, _, c1, c5, Nat.ne_of_gt lz, Nat.ne_of_gt hTO, Nat.ne_of_gt l_1, Nat.ne_of_gt l_2⟩⟩ c5 c6 c7
    · exact c7 _ _ D.TIz D.TITO D.TIi1 D.TIi2 a1
    · exact a4.at fun o e => c7 _ _ D.l1z D.l1TO D.l1i1 D.l1i2 e
    · exact a5.at fun o e => c7 _ _ D.l2z D.l2TO D.l2i1 D.l2i2 e
  · have hTy : s.TypeIs (.ref z) "zip" := ⟨_, b1, rfl⟩
    unfold pyNext
    refine wpAny_bind (wpAny_attempt (wpAny_callSpecial?_slot (name := Str.ofString "__next__") hTy F.slot_zip_next (wpAny_call_entry F.slot_zip_next hTy F.entry_zip_next
      (zh_item D b1 b2 a1 a2 a3 a4 a5 hx hy fun g c1 c3 c4 c5 c6 c7 => wpAny_pure (hQ g ⟨?_, c3, c4, ?_, ?_, .inr ⟨T, true, oT, c1, c7 _ _ r1 r3 r4 b2, r1, r2, r3, r4⟩⟩ c5 c6 fun c o d1 _ d3 d4 => c7 c o d1 d3 d4)) (F.args_zip_next_1 _))))
    · exact c7 _ _ D.TIz D.TIi1 D.TIi2 a1
    · exact a4.at fun o e => c7 _ _ D.l1z D.l1i1 D.l1i2 e
    · exact a5.at fun o e => c7 _ _ D.l2z D.l2i1 D.l2i2 e
theorem zs_end {Q : Option Value → Shared → Prop} (hh : A.handled = none) (D : ZipApart z TI TO i1 i2 l1 l2) (st : ZS z TI TO i1 i2 l1 l2 xs ys s.heap i) (hend : xs[i]? = none ∨ ys[i]? = none)
    (hQ : ∀ g, (∀ c o, c ≠ z → c ≠ TO → c ≠ i1 → c ≠ i2 → s.heap.get? c = some o → g.get? c = some o) → Q none { s with heap := g }) : wpAny (model prog w) A (pyNext (.ref z)) Q E s := by
  obtain ⟨a1, a2, a3, a4, a5, a6⟩ := st
  rcases a6 with ⟨b1, a, b, b2⟩ | ⟨T, f, oT, b1, b2, r⟩
  · exact RZ.pyNext_zipT_end hh D b1 a1 b2 a2 a3 a4 a5 hend hQ
  · have hTy : s.TypeIs (.ref z) "zip" := ⟨_, b1, rfl⟩
    unfold pyNext
    refine wpAny_bind (wpAny_attempt (wpAny_callSpecial?_slot (name := Str.ofString "__next__") hTy F.slot_zip_next (wpAny_call_entry F.slot_zip_next hTy F.entry_zip_next
      (zh_end hh D b1 b2 a1 a2 a3 a4 a5 hend fun g e hk he => ?_) (F.args_zip_next_1 _))))
    obtain ⟨o, ho, hc⟩ := he
    exact wpAny_bind (wpAny_isInstance (T := "StopIteration") (b := true) ⟨o, ho, hc⟩ isSubtype_stop (wpAny_pure (hQ g fun c o d1 _ d3 d4 => hk c o d1 d3 d4)))
end
/-! ### the walk of list.extend -/
/-- the tuples that were given out, one above the other -/
structure ZG (xs ys : Array Value) (lo : Addr) (h : Heap) (as : List Addr) : Prop where
  rise : as.Pairwise (· < ·)
  above : ∀ a ∈ as, lo < a
  pairs : ∀ (j : Nat) (a : Addr), as[j]? = some a → ∃ x y, xs[j]? = some x ∧ ys[j]? = some y ∧ IsPair h a x y
theorem ZG.there {xs ys : Array Value} {lo : Addr} {h : Heap} {as : List Addr} (g : ZG xs ys lo h as) {a : Addr} (ha : a ∈ as) : a < h.objs.size := by
  obtain ⟨j, hj⟩ := List.mem_iff_getElem?.mp ha
  obtain ⟨_, _, _, _, e⟩ := g.pairs j a hj
  exact Heap.lt_size e
section
variable {prog : Program} {w : World} {A : Around} {s : Shared} {R : Result → Shared → Prop} {z TI TO i1 i2 l1 l2 : Addr} {xs ys : Array Value}
theorem zl_loop {S : Addr} (hh : A.handled = none) (D : ZipApart z TI TO i1 i2 l1 l2) (hS : TI ≠ S ∧ i1 ≠ S ∧ i2 ≠ S ∧ l1 ≠ S ∧ l2 ≠ S ∧ z ≠ S ∧ TO ≠ S) (hzS : z < S ∧ TO < S ∧ i1 < S ∧ i2 < S) (hn : min xs.size ys.size ≤ sizeLine) (res : Value) {h0 : Heap}
    (hR : ∀ g acc c as, (∀ b o, b ≠ S → b ≠ z → b ≠ TO → b ≠ i1 → b ≠ i2 → h0.get? b = some o → g.get? b = some o) → g.get? S = some { cls := .type "list", dict := none, data := .seq acc c, slots := #[] } → as.length = min xs.size ys.size → ZG xs ys S g as →
      acc.toList = as.map Value.ref → R (.ok (.ret res)) { s with heap := g }) :
    ∀ (k i : Nat) (h : Heap) (c : Nat) (acc : Array Value) (as : List Addr), min xs.size ys.size - i = k → i ≤ min xs.size ys.size → ZS z TI TO i1 i2 l1 l2 xs ys h i → (∀ b o, b ≠ S → b ≠ z → b ≠ TO → b ≠ i1 → b ≠ i2 → h0.get? b = some o → h.get? b = some o) →
      h.get? S = some { cls := .type "list", dict := none, data := .seq acc c, slots := #[] } → acc.toList = as.map Value.ref → as.length = i → ZG xs ys S h as →
      codeAny (model prog w) A (.builtin "list.extend.loop" ⟨[.ref S, .ref z, res], []⟩) R { s with heap := h } := by
  obtain ⟨z1, z2, z3, z4⟩ := hzS
  intro k
  induction k with
  | zero =>
    intro i h c acc as hk hi hst hkeep hSo hacc hal hG
    have hin : i = min xs.size ys.size := by omega
    refine codeAny_builtin PySem.F.entry_extend_loop ?_
    rw [Around.under_plainId PySem.F.plain_extend_loop _]
    show wpAny _ A.in1 (pyNext (.ref z) >>= _) _ _ _
    have hend : xs[i]? = none ∨ ys[i]? = none := by
      rcases Nat.le_total xs.size ys.size with q | q
      · exact .inl (Array.getElem?_eq_none (by omega))
      · exact .inr (Array.getElem?_eq_none (by omega))
    refine wpAny_bind (zs_end (s := { s with heap := h }) (A := A.in1) hh D hst hend fun g hg => ?_)
    have hg : ∀ c o, c ≠ z → c ≠ TO → c ≠ i1 → c ≠ i2 → h.get? c = some o → g.get? c = some o := hg
    refine wpAny_pure (hR g acc c as (fun b o h1 h2 h3 h4 h5 e => hg b o h2 h3 h4 h5 (hkeep b o h1 h2 h3 h4 h5 e)) (hg S _ (Ne.symm hS.2.2.2.2.2.1) (Ne.symm hS.2.2.2.2.2.2) (Ne.symm hS.2.1) (Ne.symm hS.2.2.1) hSo) (by omega) ⟨hG.rise, hG.above, fun j a hj => ?_⟩ hacc)
    obtain ⟨x, y, e1, e2, e3⟩ := hG.pairs j a hj
    have ha := hG.above a (List.mem_of_getElem? hj)
    exact ⟨x, y, e1, e2, hg a _ (Nat.ne_of_gt (Nat.lt_trans z1 ha)) (Nat.ne_of_gt (Nat.lt_trans z2 ha)) (Nat.ne_of_gt (Nat.lt_trans z3 ha)) (Nat.ne_of_gt (Nat.lt_trans z4 ha)) e3⟩
  | succ k ih =>
    intro i h c acc as hk hi hst hkeep hSo hacc hal hG
    have hlt : i < min xs.size ys.size := by omega
    obtain ⟨x, hx⟩ : ∃ p, xs[i]? = some p := ⟨xs[i]'(by omega), Array.getElem?_eq_getElem _⟩
    obtain ⟨y, hy⟩ : ∃ p, ys[i]? = some p := ⟨ys[i]'(by omega), Array.getElem?_eq_getElem _⟩
    have hsz : acc.size = i := by rw [← Array.length_toList, hacc, List.length_map, hal]
    have hSl : S < h.objs.size := Heap.lt_size hSo
    refine codeAny_builtin PySem.F.entry_extend_loop ?_
    rw [Around.under_plainId PySem.F.plain_extend_loop _]
    show wpAny _ A.in1 (pyNext (.ref z) >>= _) _ _ _
    refine wpAny_bind (zs_item (s := { s with heap := h }) D (Nat.lt_trans z2 hSl) hst hx hy fun g hst' hp hgs hkp => ?_)
    have hp : IsPair g h.objs.size x y := hp
    have hgs : g.objs.size = h.objs.size + 1 := hgs
    have hkp : ∀ c o, c ≠ z → c ≠ TO → c ≠ i1 → c ≠ i2 → h.get? c = some o → g.get? c = some o := hkp
    have hSg := hkp S _ (Ne.symm hS.2.2.2.2.2.1) (Ne.symm hS.2.2.2.2.2.2) (Ne.symm hS.2.1) (Ne.symm hS.2.2.1) hSo
    have up : ∀ b o, b ≠ S → g.get? b = some o → (g.update S (Obj.mapSeq (·.push (Value.ref h.objs.size)))).get? b = some o := fun b o hb e => (Heap.get?_update_other _ _ (Ne.symm hb)).trans e
    have hSn := Heap.get?_update_self (Obj.mapSeq (·.push (Value.ref h.objs.size))) hSg rfl
    show wpAny _ A.in1 (updateSeq S (·.push (Value.ref h.objs.size)) >>= _) _ _ _
    refine wpAny_bind ?_
    refine wpAny_updateSeq hSg rfl (wpAny_pure ⟨plainId_quiet PySem.F.plain_extend_loop _, ih (i + 1) _ _ (acc.push (Value.ref h.objs.size)) (as ++ [h.objs.size]) (by omega) hlt (hst'.off D hS (fun o _ => ⟨_, hSn⟩) up)
      (fun b o h1 h2 h3 h4 h5 e => up b o h1 (hkp b o h2 h3 h4 h5 (hkeep b o h1 h2 h3 h4 h5 e))) hSn (by rw [Array.toList_push, hacc, List.map_append]; rfl) (by rw [List.length_append, hal]; rfl) ⟨?_, ?_, ?_⟩⟩) (by rw [hsz]; omega) (by show (acc.push (Value.ref h.objs.size)).size ≤ sizeLine + 1; rw [Array.size_push, hsz]; omega)
    · refine List.pairwise_append.mpr ⟨hG.rise, List.pairwise_singleton _ _, fun a ha b hb => ?_⟩
      rw [List.mem_singleton.mp hb]
      exact hG.there ha
    · intro a ha
      rcases List.mem_append.mp ha with ha | ha
      · exact hG.above a ha
      · rw [List.mem_singleton.mp ha]
        exact hSl
    · intro j b hj
      rcases Nat.lt_trichotomy j as.length with q | q | q
      · rw [List.getElem?_append_left q] at hj
        obtain ⟨x', y', e1, e2, e3⟩ := hG.pairs j b hj
        have hb := hG.above b (List.mem_of_getElem? hj)
        exact ⟨x', y', e1, e2, up b _ (Nat.ne_of_gt hb) (hkp b _ (Nat.ne_of_gt (Nat.lt_trans z1 hb)) (Nat.ne_of_gt (Nat.lt_trans z2 hb)) (Nat.ne_of_gt (Nat.lt_trans z3 hb)) (Nat.ne_of_gt (Nat.lt_trans z4 hb)) e3)⟩
      · subst q
        have hb : h.objs.size = b := by simpa using hj
        subst hb
        exact ⟨x, y, by rw [hal]; exact hx, by rw [hal]; exact hy, up _ _ (Nat.ne_of_gt hSl) hp⟩
      · have hnone : (as ++ [h.objs.size])[j]? = none := List.getElem?_eq_none (by rw [List.length_append, List.length_singleton]; omega)
        rw [hnone] at hj
        cases hj
end
theorem zip_no_len : typeLookup (.type "zip") "__len__" = pure none := by
  rw [typeLookup_type, builtinLookup_eq_fast]
  kernel_rfl
theorem zip_no_hint : typeLookup (.type "zip") "__length_hint__" = pure none := by
  rw [typeLookup_type, builtinLookup_eq_fast]
  kernel_rfl
/-- what a new list of the pairs leaves -/
def ZR (xs ys : Array Value) (S : Addr) (h0 : Heap) (z TO i1 i2 : Addr) (K : Heap → List Addr → Prop) : Prop :=
  ∀ g acc c as, (∀ b o, b ≠ S → b ≠ z → b ≠ TO → b ≠ i1 → b ≠ i2 → h0.get? b = some o → g.get? b = some o) → g.get? S = some { cls := .type "list", dict := none, data := .seq acc c, slots := #[] } → as.length = min xs.size ys.size → ZG xs ys S g as →
      acc.toList = as.map Value.ref → K g as
section
variable {prog : Program} {w : World} {A : Around} {s : Shared} {R : Result → Shared → Prop} {z TI TO i1 i2 l1 l2 : Addr} {xs ys : Array Value}
theorem zl_extend {S : Addr} (hh : A.handled = none) (D : ZipApart z TI TO i1 i2 l1 l2) (hS : TI ≠ S ∧ i1 ≠ S ∧ i2 ≠ S ∧ l1 ≠ S ∧ l2 ≠ S ∧ z ≠ S ∧ TO ≠ S) (hzS : z < S ∧ TO < S ∧ i1 < S ∧ i2 < S) (hn : min xs.size ys.size ≤ sizeLine) (res : Value) (c0 : Nat)
    (hz : IsZip s.heap z TI TO .none) (st : ZS z TI TO i1 i2 l1 l2 xs ys s.heap 0) (hSo : s.heap.get? S = some { cls := .type "list", data := .seq #[] c0 })
    (hR : ZR xs ys S s.heap z TO i1 i2 fun g _ => R (.ok (.ret res)) { s with heap := g }) :
    wpAny (model prog w) A.in1 (Builtin.List.listExtendWith (.ref S) (.ref z) res)
      (fun fin t => match fin with | .done f => R (.ok f) t | .again c' => c'.quiet = true ∧ codeAny (model prog w) A c' R t) (fun e t => R (.error e) t) s := by
  have hT : ∀ h' : Heap, IsZip h' z TI TO .none → Shared.TypeIs { s with heap := h' } (.ref z) "zip" := fun h' q => ⟨_, q, rfl⟩
  unfold Builtin.List.listExtendWith
  refine wpAny_bind (wpAny_typeOf (hT _ hz) ?_)
  have f1 : Builtin.List.listSameRef (.ref S) (.ref z) = false := by simp [Builtin.List.listSameRef, Ne.symm hS.2.2.2.2.2.1]
  have f2 : (Value.type "zip" == Value.type "list") = false := by decide
  have f3 : (Value.type "zip" == Value.type "tuple") = false := by decide
  simp only [f1, f2, f3, Bool.or_false, Bool.false_eq_true, if_false]
  refine wpAny_bind (wpAny_pyIter_zip hz (wpAny_bind (wpAny_holding ?_)))
  unfold Builtin.List.listLengthHint
  refine wpAny_bind (wpAny_specialOf (hT _ hz) zip_no_len ?_)
  show wpAny _ A.in1 (specialOf (Value.ref z) (Str.ofString "__length_hint__") >>= _) _ _ _
  refine wpAny_bind (wpAny_specialOf (hT _ hz) zip_no_hint (wpAny_pure ?_))
  show wpAny _ A.in1 (rule "list.extend.makes-room" >>= fun _ => Builtin.List.listTouch (.ref S) >>= fun _ => again (.builtin "list.extend.loop" ⟨[.ref S, .ref z, res], []⟩)) _ _ _
  refine wpAny_bind (wpAny_rule (wpAny_bind ?_))
  show wpAny _ A.in1 (updateSeq S (·.push .none) >>= fun _ => updateSeq S (·.pop)) _ _ _
  refine wpAny_bind (wpAny_updateSeq hSo rfl ?_)
  have e2 := Heap.get?_update_self (Obj.mapSeq (·.push Value.none)) hSo rfl
  refine wpAny_updateSeq (hz := by seq_fits) e2 rfl ?_
  have e3 := Heap.get?_update_self (Obj.mapSeq (·.pop)) e2 rfl
  have oth : ∀ b o, b ≠ S → s.heap.get? b = some o → ((s.heap.update S (Obj.mapSeq (·.push Value.none))).update S (Obj.mapSeq (·.pop))).get? b = some o :=
    fun b o hb e => (Heap.get?_update_other _ _ (Ne.symm hb)).trans ((Heap.get?_update_other _ _ (Ne.symm hb)).trans e)
  refine wpAny_pure ⟨plainId_quiet PySem.F.plain_extend_loop _, zl_loop (h0 := s.heap) hh D hS hzS hn res (fun g acc c as a1 a2 a3 a4 a5 => hR g acc c as a1 a2 a3 a4 a5) _ 0 _ _ #[] [] rfl (Nat.zero_le _)
    (st.off D hS (fun o _ => ⟨_, e3⟩) oth) (fun b o hb _ _ _ _ e => oth b o hb e) e3 rfl rfl ⟨List.Pairwise.nil, by simp, by simp⟩⟩
theorem zl_init {S : Addr} (hh : A.handled = none) (D : ZipApart z TI TO i1 i2 l1 l2) (hS : TI ≠ S ∧ i1 ≠ S ∧ i2 ≠ S ∧ l1 ≠ S ∧ l2 ≠ S ∧ z ≠ S ∧ TO ≠ S) (hzS : z < S ∧ TO < S ∧ i1 < S ∧ i2 < S) (hn : min xs.size ys.size ≤ sizeLine)
    (hz : IsZip s.heap z TI TO .none) (st : ZS z TI TO i1 i2 l1 l2 xs ys s.heap 0) (hSo : s.heap.get? S = some { cls := .type "list", data := .seq #[] })
    (hR : ZR xs ys S s.heap z TO i1 i2 fun g _ => R (.ok (.ret .none)) { s with heap := g }) :
    wpAny (model prog w) A.in1 (Builtin.«list.__init__» ⟨[.ref S, .ref z], []⟩)
      (fun fin t => match fin with | .done f => R (.ok f) t | .again c' => c'.quiet = true ∧ codeAny (model prog w) A c' R t) (fun e t => R (.error e) t) s := by
  show wpAny _ A.in1 (do let old ← Builtin.List.listItems (.ref S); Builtin.List.listUpdate (.ref S) (fun _ => #[]); letGo old.toList.reverse; Builtin.List.listExtendWith (.ref S) (.ref z) .none) _ _ s
  refine wpAny_bind ?_
  unfold Builtin.List.listItems
  refine wpAny_bind (wpAny_seqItems hSo rfl (wpAny_pure ?_))
  show wpAny _ A.in1 (updateSeq S (fun _ => #[]) >>= fun _ => letGo (#[] : Array Value).toList.reverse >>= fun _ => Builtin.List.listExtendWith (.ref S) (.ref z) .none) _ _ s
  refine wpAny_bind (wpAny_updateSeq hSo rfl ?_)
  have e2 := Heap.get?_update_self (Obj.mapSeq (fun _ => (#[] : Array Value))) hSo rfl
  have oth : ∀ b o, b ≠ S → s.heap.get? b = some o → (s.heap.update S (Obj.mapSeq (fun _ => (#[] : Array Value)))).get? b = some o :=
    fun b o hb e => (Heap.get?_update_other _ _ (Ne.symm hb)).trans e
  refine wpAny_bind (wpAny_letGo ?_)
  exact zl_extend hh D hS hzS hn .none _ (oth _ _ hS.2.2.2.2.2.1 hz) (st.off D hS (fun o _ => ⟨_, e2⟩) oth) e2 fun g acc c as a1 a2 a3 a4 a5 => hR g acc c as (fun b o b1 b2 b3 b4 b5 e => a1 b o b1 b2 b3 b4 b5 (oth b o b1 e)) a2 a3 a4 a5
end
section
variable {prog : Program} {w : World} {A : Around} {E : Value → Shared → Prop} {s : Shared} {z TI TO i1 i2 l1 l2 : Addr} {xs ys : Array Value}
theorem zl_call {Q : Value → Shared → Prop} (hh : A.handled = none) (D : ZipApart z TI TO i1 i2 l1 l2) (hn : min xs.size ys.size ≤ sizeLine) (hTI : TI < s.heap.objs.size) (hTO : TO < s.heap.objs.size) (hl : l1 < s.heap.objs.size ∧ l2 < s.heap.objs.size)
    (hz : IsZip s.heap z TI TO .none) (st : ZS z TI TO i1 i2 l1 l2 xs ys s.heap 0)
    (hQ : ∀ g acc c as, (∀ b o, b ≠ z → b ≠ TO → b ≠ i1 → b ≠ i2 → s.heap.get? b = some o → g.get? b = some o) → g.get? s.heap.objs.size = some { cls := .type "list", dict := none, data := .seq acc c, slots := #[] } → as.length = min xs.size ys.size → ZG xs ys s.heap.objs.size g as →
      acc.toList = as.map Value.ref → Q (.ref s.heap.objs.size) { s with heap := g }) :
    wpAny (model prog w) A (call (.type "list") [.ref z]) Q E s := by
  obtain ⟨q1, q2, q3⟩ := st.lt
  refine callType_codes (Q₁ := fun obj t => obj = .ref s.heap.objs.size ∧ t = { s with heap := s.heap.push { cls := .type "list", data := .seq #[] } }) PySem.F.called_list (PySem.F.typeCall_list_1 _) PySem.F.entry_list_init
    (code_list_new _ ⟨rfl, rfl⟩) fun obj t ht => ?_
  obtain ⟨rfl, rfl⟩ := ht
  have hSo : (s.heap.push { cls := .type "list", data := .seq #[] }).get? s.heap.objs.size = some { cls := .type "list", data := .seq #[] } := Heap.get?_push_size _ rfl
  refine ⟨⟨_, hSo, rfl⟩, PySem.F.args_list_init_2 _ _, zl_init (A := A.in1) hh D ⟨Nat.ne_of_lt hTI, Nat.ne_of_lt q2, Nat.ne_of_lt q3, Nat.ne_of_lt hl.1, Nat.ne_of_lt hl.2, Nat.ne_of_lt q1, Nat.ne_of_lt hTO⟩ ⟨q1, hTO, q2, q3⟩ hn (Heap.get?_push_of_some _ hz)
    (st.move D fun b o e _ => Heap.get?_push_of_some _ e) hSo fun g acc c as a1 a2 a3 a4 a5 => ⟨rfl, hQ g acc c as (fun b o b2 b3 b4 b5 e => a1 b o (Nat.ne_of_lt (Heap.lt_size e)) b2 b3 b4 b5 (Heap.get?_push_of_some _ e)) a2 a3 a4 a5⟩⟩
end
end PI
/-! ## PiZ2 -/
set_option Elab.async false
set_option linter.all false
set_option maxRecDepth 100000
set_option maxHeartbeats 2000000
set_option autoImplicit false
/-! PI: list(zip(x, y)), the hand layer's rule and ours. -/
namespace PI
open PySem PySem.Spec PyProof.Rows L2
def putZ : Hp → List Addr → List (V × V) → Hp
  | H, a :: as, p :: r => putZ (upd H a (.tup [p.1, p.2])) as r
  | H, _, _ => H
theorem putZ_off {b : Addr} : ∀ (as : List Addr) (r : List (V × V)) (H : Hp), b ∉ as → putZ H as r b = H b
  | [], _, _, _ => rfl
  | _ :: _, [], _, _ => rfl
  | a :: as, p :: r, H, h => by
    rw [putZ, putZ_off as r _ fun z => h (List.mem_cons_of_mem _ z)]
    exact upd_ne fun z => h (by rw [z]; exact List.mem_cons_self)
theorem putZ_at : ∀ (as : List Addr) (r : List (V × V)) (H : Hp), as.length = r.length → as.Nodup → ∀ (j : Nat) (a : Addr), as[j]? = some a → ∃ q, r[j]? = some q ∧ putZ H as r a = some (.tup [q.1, q.2])
  | [], _, _, _, _, j, a, e => by simp at e
  | _ :: _, [], _, h, _, _, _, _ => by simp at h
  | b :: as, p :: r, H, h, hn, j, a, e => by
    have hn' := List.nodup_cons.mp hn
    cases j with
    | zero =>
      simp at e
      subst e
      refine ⟨p, rfl, ?_⟩
      rw [putZ, putZ_off as r _ hn'.1, upd_same]
    | succ j =>
      obtain ⟨q, h1, h2⟩ := putZ_at as r (upd H b (.tup [p.1, p.2])) (by simpa using h) hn'.2 j a (by simpa using e)
      exact ⟨q, by simpa using h1, h2⟩
/-- the pairs of two rows of values, as they are kept -/
def zipV (vx vy : List V) : List (V × V) := vx.zip vy
section
variable {X : Cx}
theorem zlaid {pins : List (Addr × Obj)} {σ : L2.St} {H : Hp} {s : Shared} {h' : Heap} {tk : Nat} {vx vy : List V} {xs ys acc : Array Value} {c : Nat} {as : List Addr} {p : Addr} (I : Inv X pins σ H s) (hp : s.heap.objs.size ≤ p) (rx : Vals vx xs.toList) (ry : Vals vy ys.toList)
    (hk : ∀ b o, s.heap.get? b = some o → h'.get? b = some o) (hS : h'.get? p = some { cls := .type "list", dict := none, data := .seq acc c, slots := #[] }) (hl : as.length = min xs.size ys.size) (hG : ZG xs ys p h' as) (hacc : acc.toList = as.map Value.ref) (hz : min xs.size ys.size ≤ sizeLine) :
    ∃ H' : Hp, (∀ b o, H b = some o → H' b = some o) ∧ H p = none ∧ (∀ t ∈ as, H t = none) ∧ p ∉ as ∧ as.Nodup ∧ H' p = some (.lst (as.map V.ref)) ∧ (∀ (j : Nat) (a : Addr), as[j]? = some a → ∃ q, (zipV vx vy)[j]? = some q ∧ H' a = some (.tup [q.1, q.2])) ∧ Inv X pins σ H' { s with heap := h', toks := tk } := by
  have lx := rx.length
  have ly := ry.length
  have lk : as.length = (zipV vx vy).length := by
    rw [hl, zipV, List.length_zip, lx, ly, Array.length_toList, Array.length_toList]
  have hSn : p ∉ as := fun z => Nat.lt_irrefl _ (hG.above _ z)
  have nd : as.Nodup := List.Pairwise.imp (fun {a b} (h : a < b) => Nat.ne_of_lt h) hG.rise
  have new : ∀ t ∈ as, H t = none := fun t ht => I.hok.fresh (Nat.le_trans hp (Nat.le_of_lt (hG.above t ht)))
  have newS : H p = none := I.hok.fresh hp
  have atP := putZ_at as (zipV vx vy) (upd H p (.lst (as.map V.ref))) lk nd
  have off : ∀ b, b ∉ as → b ≠ p → putZ (upd H p (.lst (as.map V.ref))) as (zipV vx vy) b = H b := fun b h1 h2 => by rw [putZ_off as _ _ h1, upd_ne h2]
  have low : ∀ b o, s.heap.get? b = some o → b ∉ as ∧ b ≠ p := fun b o e => by
    have q := Heap.lt_size e
    exact ⟨fun z => absurd (hG.above b z) (Nat.not_lt.mpr (Nat.le_trans (Nat.le_of_lt q) hp)), Nat.ne_of_lt (Nat.lt_of_lt_of_le q hp)⟩
  have kp : ∀ b u, H b = some u → (putZ (upd H p (.lst (as.map V.ref))) as (zipV vx vy)) b = some u := fun b u e => by
    rw [off b (fun z => by rw [new b z] at e; cases e) (fun z => by rw [z, newS] at e; cases e)]
    exact e
  have eS : putZ (upd H p (.lst (as.map V.ref))) as (zipV vx vy) p = some (.lst (as.map V.ref)) := by rw [putZ_off as _ _ hSn, upd_same]
  refine ⟨_, kp, newS, new, hSn, nd, eS, atP, ?_⟩
  refine I.call' (ch := []) rfl ⟨fun b o q _ _ _ => hk b o q, fun b o q _ _ _ => ⟨o.slots, hk b o q⟩, fun b o q n _ => ?_, fun b o q _ => ⟨o, hk b o q⟩, fun b xs q => kp b _ q, fun b o u q => kp b _ q, fun b ps q => ⟨#[], by rw [kp b _ q]; simp⟩⟩ (fun b u q => ?_) I.bare fun b z => by simp at z
  · obtain ⟨z1, z2⟩ := low b o q
    rw [off b z1 z2]
    exact n
  · by_cases hb : b ∈ as
    · obtain ⟨j, hj⟩ := List.mem_iff_getElem?.mp hb
      obtain ⟨pk, e2, e3⟩ := atP j b hj
      rw [e3] at q
      cases q
      obtain ⟨u, v, f1, f2, f3⟩ := hG.pairs j b hj
      unfold zipV at e2
      rw [List.getElem?_zip_eq_some] at e2
      obtain ⟨u', g1, g2⟩ := rx.get e2.1
      obtain ⟨v', g3, g4⟩ := ry.get e2.2
      have eu : u' = u := by
        have z : xs.toList[j]? = some u := by simpa using f1
        rw [g1] at z
        exact Option.some.inj z
      have ev : v' = v := by
        have z : ys.toList[j]? = some v := by simpa using f2
        rw [g3] at z
        exact Option.some.inj z
      subst eu ev
      exact ⟨by show 2 ≤ sizeLine; decide, [u', v'], .cons g2 (.cons g4 .nil), ⟨_, f3, rfl, _, rfl⟩⟩
    · by_cases hb2 : b = p
      · subst hb2
        rw [eS] at q
        cases q
        have vr : ∀ as : List Addr, Vals (as.map V.ref) (as.map Value.ref) := fun as => by
          induction as with
          | nil => exact .nil
          | cons a as ih => exact .cons rfl ih
        refine ⟨by rw [List.length_map]; omega, acc.toList, c, by rw [hacc]; exact vr as, ?_⟩
        rw [Array.toArray_toList]
        exact hS
      · rw [off b hb hb2] at q
        exact (I.hok b u q).stay (fun d v _ y => hk d v y) (fun d y => kp d _ y) fun d xs y => kp d _ y
def tListZip (K : PySem.W.Frag) (ta : TA) : TE := fun σ H Q => ta σ H fun vs H1 => ∃ a b vx vy, vs = [.ref a, .ref b] ∧ SqT K H1 a vx ∧ SqT K H1 b vy ∧ ∀ (H' : Hp) (p : Addr) (as : List Addr),
  (∀ b o, H1 b = some o → H' b = some o) → H1 p = none → (∀ t ∈ as, H1 t = none) → p ∉ as → as.Nodup → H' p = some (.lst (as.map V.ref)) → as.length = min vx.length vy.length → (∀ (j : Nat) (a : Addr), as[j]? = some a → ∃ q, (zipV vx vy)[j]? = some q ∧ H' a = some (.tup [q.1, q.2])) → Q (.ref p) H'
theorem pe_listZip {e e2 : Expr} {ta : TA} {p q pos pos2 : Pos} (hc : X.calm = true) (hg : Gl X "list") (hm : X.mg "list" = none) (hg2 : Gl X "zip") (hm2 : X.mg "zip" = none) (ha : PA X [e, e2] ta)
    (hv : bootBuiltins "list" = some (.type "list")) (hs : starEach [e, e2] X.env = (false, eval e X.env) :: starEach [e2] X.env := by rfl) (hpl : (backTo pos2 (starEach [e2] X.env)).any (·.1) = false := by rfl)
    (hst : starEach [.Call (.Name "zip" q) [e, e2] [] pos2] X.env = (false, eval (.Call (.Name "zip" q) [e, e2] [] pos2) X.env) :: starEach [] X.env := by rfl) :
    PE X (.Call (.Name "list" p) [.Call (.Name "zip" q) [e, e2] [] pos2] [] pos) (tListZip X.K ta) := by
  refine ⟨fun pins s σ H Q I h => ?_⟩
  refine Call_ (ld_blt I hg hm hv ?_)
  refine PyProof.Rows.callWith_type1 (PyProof.Rows.args_cons ?_ hst) hst rfl
  refine Call_ (ld_blt I hg2 hm2 PyProof.Rows.boot_zip (PyProof.Rows.callWith_type1 (thn (ha.run pos2 pins s σ H _ I h) fun us s1 ⟨vs, H1, I1, r1, q1⟩ => ?_) hs hpl))
  obtain ⟨a, b, vx, vy, ex, hqx, hqy, q1⟩ := q1
  subst ex
  cases r1 with
  | cons r rr =>
    cases rr with
    | cons r' rr =>
      cases rr
      cases r
      cases r'
      obtain ⟨its, rv, p1, hz1⟩ := I1.tuple hqx
      obtain ⟨its2, rv2, p2, hz2⟩ := I1.tuple hqy
      have t1 : s1.heap.IsTuple a its.toArray := p1
      have t2 : s1.heap.IsTuple b its2.toArray := p2
      obtain ⟨o1, ho1, _⟩ := id p1
      obtain ⟨o2, ho2, _⟩ := id p2
      refine RZ.call_zipT (show s1.heap.IsTuple a its.toArray from p1) (show s1.heap.IsTuple b its2.toArray from p2) fun h' hz hTI hTO h1 h2 hsz hk => ?_
      have I2 : Inv X pins σ H1 { s1 with heap := h' } := I1.kept (t' := s1.toks) hk
      have hlx : its.toArray.size = vx.length := by rw [List.size_toArray, ← rv.length]
      have hly : its2.toArray.size = vy.length := by rw [List.size_toArray, ← rv2.length]
      have hn : min its.toArray.size its2.toArray.size ≤ sizeLine := by
        have q : its.length ≤ sizeLine := by
          rw [← rv.length]
          exact hz1
        simp only [List.size_toArray]
        omega
      have la := Heap.lt_size ho1
      have lb := Heap.lt_size ho2
      refine PyProof.Rows.args_nil ?_
      have hsz : h'.objs.size = s1.heap.objs.size + 5 := hsz
      have L : ∀ n : Nat, n < 5 → s1.heap.objs.size + n < h'.objs.size := fun n hn => by
        rw [hsz]
        exact Nat.add_lt_add_left hn _
      have L0 : ∀ c : Nat, c < s1.heap.objs.size → c < h'.objs.size := fun c hc => Nat.lt_of_lt_of_le hc (Nat.le_of_lt (L 0 (by decide)))
      refine zl_call (s := { s1 with heap := h' }) (l1 := a) (l2 := b) (xs := its.toArray) (ys := its2.toArray) (I1.ok.hd hc) (PySem.W.ktu_apart s1.heap.objs.size a b la lb) hn (L 2 (by decide)) (L 3 (by decide)) ⟨L0 _ la, L0 _ lb⟩ hz
        ⟨hTI, h1, h2, t1.at fun o e => hk _ o e, t2.at fun o e => hk _ o e, .inl ⟨hz, _, _, hTO⟩⟩ fun g acc c as a1 a2 a3 a4 a5 => ?_
      have hkk : ∀ b o, s1.heap.get? b = some o → g.get? b = some o := fun b o e => by
        have q := Heap.lt_size e
        exact a1 b o (Nat.ne_of_lt (Nat.lt_of_lt_of_le q (Nat.le_add_right _ _))) (Nat.ne_of_lt (Nat.lt_of_lt_of_le q (Nat.le_add_right _ _))) (Nat.ne_of_lt q) (Nat.ne_of_lt (Nat.lt_of_lt_of_le q (Nat.le_add_right _ _))) (hk b o e)
      obtain ⟨H', k1, k2, k3, k4, k5, k6, k7, J⟩ := zlaid (tk := s1.toks) (p := h'.objs.size) (vx := vx) (vy := vy) (xs := its.toArray) (ys := its2.toArray) I1 (Nat.le_of_lt (L 0 (by decide))) (by simpa using rv) (by simpa using rv2) hkk a2 a3 a4 a5 hn
      exact ⟨.ref _, H', J, rfl, q1 H' _ as k1 k2 k3 k4 k5 k6 (by rw [a3, hlx, hly]) k7⟩
end
section
variable {G : Gx} {ρ : List Addr} {H H' : Hp} {h : Hh} {p : Addr}
theorem sqt_up {K : PySem.W.Frag} {a : Addr} {vs : List V} (k : ∀ b o, H b = some o → H' b = some o) (x : SqT K H a vs) : SqT K H' a vs := by
  rcases x with (x | ⟨u, x⟩) | x
  · exact .inl (.inl (k _ _ x))
  · exact .inl (.inr ⟨u, k _ _ x⟩)
  · exact .inr x
theorem sqr_up {K : PySem.W.Frag} {a : Addr} {vs : List V} (k : ∀ b o, H b = some o → H' b = some o) (x : SqR K H a vs) : SqR K H' a vs := by
  rcases x with ⟨u, x⟩ | x
  · exact .inl ⟨u, k _ _ x⟩
  · exact .inr x
theorem Le.up (k : ∀ b o, H b = some o → H' b = some o) : Le G ρ H ρ H' := ⟨⟨[], by simp⟩, fun _ _ x => sqt_up k x, fun _ _ x => sqr_up k x, fun b o e _ => k b o e, fun b o e => ⟨o, k b o e⟩⟩
theorem Le.up1 (k : ∀ b o, H b = some o → H' b = some o) (hp : H p = none) : Le G ρ H (ρ ++ [p]) H' := ⟨⟨[p], rfl, fun b hb => by rw [List.mem_singleton.mp hb]; exact hp⟩, fun _ _ x => sqt_up k x, fun _ _ x => sqr_up k x, fun b o e _ => k b o e, fun b o e => ⟨o, k b o e⟩⟩
theorem HR.up (x : HR G ρ h H) (k : ∀ b o, H b = some o → H' b = some o) : HR G ρ h H' := ⟨x.len, x.nd, fun i a o e1 e2 => (x.ok i a o e1 e2).keep (Le.up k) fun u e => k _ _ e⟩
theorem HR.up1 {o : Ob} (x : HR G ρ h H) (k : ∀ b o, H b = some o → H' b = some o) (hp : H p = none) (r : OR G (ρ ++ [p]) H' p o) : HR G (ρ ++ [p]) (h ++ [o]) H' := by
  refine ⟨by simp [x.len], ?_, fun i a u e1 e2 => ?_⟩
  · rw [List.nodup_append]
    refine ⟨x.nd, by simp, fun b hb c hc => ?_⟩
    rw [List.mem_singleton.mp hc]
    exact fun z => x.notin hp (z ▸ hb)
  · by_cases hi : i < h.length
    · rw [List.getElem?_append_left (by rw [x.len]; exact hi)] at e1
      rw [List.getElem?_append_left hi] at e2
      exact (x.ok i a u e1 e2).keep (Le.up1 k hp) fun z e => k _ _ e
    · rw [List.getElem?_append_right (by rw [x.len]; omega)] at e1
      rw [List.getElem?_append_right (by omega)] at e2
      have h0 : i - h.length = 0 := by
        have q := (List.getElem?_eq_some_iff.mp e2).1
        simp at q
        omega
      rw [x.len, h0] at e1
      rw [h0] at e2
      have ea : p = a := by simpa using e1
      have eo : o = u := by simpa using e2
      rw [← ea, ← eo]
      exact r
theorem RDs.of_at : ∀ {vs : List V} {ds : List D}, vs.length = ds.length → (∀ (j : Nat) (v : V) (d : D), vs[j]? = some v → ds[j]? = some d → RD G ρ H v d) → RDs G ρ H vs ds
  | [], [], _, _ => .nil
  | [], _ :: _, h, _ => by simp at h
  | _ :: _, [], h, _ => by simp at h
  | v :: vs, d :: ds, h, f => .cons (f 0 v d rfl rfl) (RDs.of_at (by simpa using h) fun j w e h1 h2 => f (j + 1) w e (by simpa using h1) (by simpa using h2))
end
section
variable {X : Cx} {G : Gx} {W : WX} {pos p q pos2 : Pos} {a b : Expr} {da db : Den}
theorem ie_zipL (hK : G.K = X.K) (hc : X.calm = true) (ha : PE X a (tI G W da)) (hb : PE X b (tI G W db)) (hm : X.mg "list" = none) (hm2 : X.mg "zip" = none) (hg : Gl X "list" := by rfl) (hg2 : Gl X "zip" := by rfl)
    (hs : starEach [a, b] X.env = (false, eval a X.env) :: starEach [b] X.env := by rfl) (hs2 : starEach [b] X.env = (false, eval b X.env) :: starEach [] X.env := by rfl) (hpl : (backTo pos2 (starEach [b] X.env)).any (·.1) = false := by rfl)
    (hst : starEach [.Call (.Name "zip" q) [a, b] [] pos2] X.env = (false, eval (.Call (.Name "zip" q) [a, b] [] pos2) X.env) :: starEach [] X.env := by rfl) :
    PE X (.Call (.Name "list" p) [.Call (.Name "zip" q) [a, b] [] pos2] [] pos) (tI G W (dZipL da db)) := by
  refine pe_imp (pe_listZip hc hg hm hg2 hm2 (pa_cons ha (pa_cons hb pa_nil hs2) hs) (by decide +kernel) hs hpl hst) fun σ H Q ⟨ρ, h, e, hr, er, p⟩ => ?_
  refine tI.intro hr er (Post.bind p) fun ρ1 h1 H1 x v l1 hr1 r1 p1 => ?_
  refine tI.intro hr1 (er.mono l1) (Post.bind p1) fun ρ2 h2 H2 y w l2 hr2 r2 p2 => ?_
  have r1' := r1.mono l2
  cases r1' <;> first
    | exact False.elim p2
    | skip
  cases r2 <;> first
    | exact False.elim p2
    | skip
  rename_i a1 vs ds s1 q1 a2 ws es s2 q2
  refine ⟨a1, a2, vs, ws, rfl, hK ▸ s1, hK ▸ s2, fun H' pl as k hp ht hpn nd eS hl hat => ?_⟩
  have le := Le.up1 (G := G) (ρ := ρ2) k hp
  have lz := zipD_len ds es
  have items : RDs G (ρ2 ++ [pl]) H' (as.map V.ref) (zipD ds es) := RDs.of_at (by rw [List.length_map, hl, lz, q1.length, q2.length]) fun j v d h1 h2 => by
    rw [List.getElem?_map, Option.map_eq_some_iff] at h1
    obtain ⟨t, ht, rfl⟩ := h1
    obtain ⟨pr, f1, f2⟩ := hat j t ht
    obtain ⟨x, y, ex, ey, rfl⟩ := zipD_at h2
    unfold zipV at f1
    rw [List.getElem?_zip_eq_some] at f1
    obtain ⟨v', g1, g2⟩ := q1.get ex
    obtain ⟨w', g3, g4⟩ := q2.get ey
    rw [f1.1] at g1
    rw [f1.2] at g3
    cases g1
    cases g3
    exact .tup (SqT.of f2) (.cons (g2.mono le) (.cons (g4.mono le) .nil))
  exact p2 _ _ _ le (hr2.up1 k hp ⟨_, eS, items⟩) (.ref (by rw [← hr2.len]; simp))
end
end PI
/-! ## PiN -/
set_option Elab.async false
set_option linter.all false
set_option maxRecDepth 100000
set_option maxHeartbeats 1000000
set_option autoImplicit false
/-! PI: enumerate of a tuple or a list; sep.join. -/
namespace PI
open PySem L2
/-! ### what the plain side has to show unreached -/
theorem ie_bad {X : Cx} {G : Gx} {W : WX} {e : Expr} : PE X e (tI G W dBad) := ⟨fun _ _ _ _ _ _ ⟨_, _, _, _, _, p⟩ => p.elim⟩
theorem is_bad {X : Cx} {G : Gx} {W : WX} {s : Stmt} : PS X s (tS G W sBad) := ⟨fun _ _ _ _ _ _ ⟨_, _, _, _, _, p⟩ => p.elim⟩
section
open PySem.Spec PyProof.Rows PySem.W
set_option maxHeartbeats 2000000 in
theorem meets_enumB {v : Value} {o : Obj} {H : Heap → Prop} (B : Begins v o H) :
    Meets (Builtin.«enumerate.__new__» ⟨[.type "enumerate", v], []⟩) (fun _ R s => H s.heap ∧
      R (.ok (.ret (.ref (s.heap.push o).objs.size))) { s with heap := (s.heap.push o).push { cls := .type "enumerate", data := .fields #[.none, .bool false, .ref s.heap.objs.size, rawInt 0, .none, .none] } }) :=
  .of_wp fun prog w A R s h => by
    obtain ⟨hp, g, d, tk, os⟩ := s; obtain ⟨h1, h⟩ := h
    have hsub := sub_enumerate
    have q1 : ∀ {A' : Around} {E : Value → Shared → Prop} {Q : Value → Shared → Prop}, Q (.ref hp.objs.size) ⟨hp.push o, g, d, tk, os⟩ → wpAny (model prog w) A' (pyIter v) Q E ⟨hp, g, d, tk, os⟩ :=
      fun q => B.iter prog w _ _ ⟨hp, g, d, tk, os⟩ _ h1 q
    wp_walk using q1
    refine wpAny_stack_any fun st => wpAny_pure ?_
    split
    · rename_i c _ _ _ _ _
      cases (c == Value.type "enumerate")
      · wp_walk using q1
        exact ⟨_, rfl, h⟩
      · wp_walk using q1
        exact ⟨_, rfl, h⟩
    · wp_walk using q1
      exact ⟨_, rfl, h⟩
section
variable {prog : Program} {w : World} {A : Around} {E : Value → Shared → Prop} {s : Shared}
theorem enum_begins1 {v : Value} {o : Obj} {H : Heap → Prop} {Q : Value → Shared → Prop} (B : Begins v o H) (h1 : H s.heap)
    (h : ∀ h', IsEnum h' (s.heap.objs.size + 1) s.heap.objs.size 0 .none → h'.get? s.heap.objs.size = some o → h'.objs.size = s.heap.objs.size + 2 →
      (∀ b o, s.heap.get? b = some o → h'.get? b = some o) → Q (.ref (s.heap.objs.size + 1)) { s with heap := h' }) :
    wpAny (model prog w) A (call (.type "enumerate") [v]) Q E s := by
  refine callType_new F.called_enumerate (by decide) (F.typeCall_enumerate_1 _) (F.newCall_enumerate_1 _) (fun obj => F.args_object_init_2 obj _) F.entry_enumerate_new
    (meets_enumB B) ⟨h1, ?_⟩
  have hz : (s.heap.push o).objs.size = s.heap.objs.size + 1 := Heap.size_push ..
  show _ ∧ _
  rw [hz]
  have he : IsEnum ((s.heap.push o).push { cls := .type "enumerate", data := .fields #[.none, .bool false, .ref s.heap.objs.size, rawInt 0, .none, .none] }) (s.heap.objs.size + 1) s.heap.objs.size 0 .none := by
    have := Heap.get?_push_size (s.heap.push o) (o := { cls := .type "enumerate", data := .fields #[.none, .bool false, .ref s.heap.objs.size, rawInt 0, .none, .none] }) rfl
    rw [hz] at this; exact this
  refine ⟨⟨_, he, rfl⟩, h _ he (Heap.get?_push_of_some _ (Heap.get?_push_size _ B.free)) (by rw [Heap.size_push, hz]) fun b o x => Heap.get?_push_of_some _ (Heap.get?_push_of_some _ x)⟩
end
/-- the tuple at a as it stands at each turn, each item in a new pair -/
def IteT (K : PySem.W.Frag) (a : Addr) : It :=
  ⟨fun i H => ∃ (xs : List V) (x : V), SqT K H a xs ∧ xs[i]? = some x, fun i H v H' => ∃ T x, v = .ref T ∧ H T = none ∧ H' = upd H T (.tup [.int (i : Nat), x]) ∧ ∀ xs, SqT K H a xs → xs[i]? = some x, fun i H => ∃ xs : List V, SqT K H a xs ∧ xs.length ≤ i⟩
theorem turn_enumT {P : Program} {w : World} {K : PySem.W.Frag} {elts : List Expr} {kk : Nat} {tpos : Pos} (a e it : Addr) :
    Turn P w K (.Tuple elts kk tpos) (IteT K a) [e, it] e (fun i h => (∃ old, IsEnum h e it ((i : Nat) : Int) old) ∧ h.IsTupleIter it a i ∧ e ≠ it) where
  mem := by simp
  obj := fun i h st b hb => by
    obtain ⟨⟨old, he⟩, ⟨o, ho, hc, hd⟩, _⟩ := st
    have e' : b = e ∨ b = it := by simpa using hb
    rcases e' with z | z
    · rw [z]; exact ⟨_, he, fun v q => nomatch q⟩
    · rw [z]; exact ⟨o, ho, fun v q => by rw [hd] at q; cases q⟩
  keep := fun i h h' st k => let ⟨⟨old, he⟩, hi, hne⟩ := st; ⟨⟨old, k e (by simp) _ he⟩, hi.at fun o q => k it (by simp) o q, hne⟩
  item := by
    intro X hP hw hK hc i pins s σ H E I hf st hg
    subst hP hw hK
    obtain ⟨⟨old, he⟩, hit, hne⟩ := st
    obtain ⟨xs, x, hq, hx⟩ := hg
    obtain ⟨its, rv, p, hz⟩ := I.tuple hq
    obtain ⟨u, hu, ru⟩ := rv.get hx
    have hel : e < s.heap.objs.size := Heap.lt_size he
    have hil : it < s.heap.objs.size := by obtain ⟨_, q, _⟩ := hit; exact Heap.lt_size q
    have hai : a ≠ it := fun z => by
      subst z
      obtain ⟨o1, g1, c1, _⟩ := p
      obtain ⟨o2, g2, c2, _⟩ := hit
      rw [g1] at g2
      cases g2
      rw [c1] at c2
      exact absurd c2 (by decide)
    have hea : e ∉ [it, a] := fun z => by
      have z' : e = it ∨ e = a := by simpa using z
      rcases z' with z | z
      · exact hne z
      · subst z
        obtain ⟨o1, g1, c1, _⟩ := p
        have g2 : s.heap.get? e = _ := he
        rw [g1] at g2
        cases g2
        exact absurd (show Value.type "enumerate" = Value.type "tuple" from c1) (by decide)
    have hlt : i < its.toArray.size := by
      have := (List.getElem?_eq_some_iff.mp hu).1
      simpa using this
    refine wpAny_pyNext_enum_itemD (Draws.tuple (show X.A.in1.handled = none from I.ok.hd hc) it a hai its.toArray) he ⟨hit, p⟩ hlt hne hea fun y h' tk hy ho hst hT hsz hk => ?_
    have ey : y = u := by
      have q : its.toArray[i]? = some u := by simpa using hu
      rw [hy] at q
      exact Option.some.inj q
    subst ey
    refine ⟨_, rfl, wpAny_letOwnedTupleGo_enum (s := { s with heap := h', toks := tk + 1 }) ho fun h'' he' sb => ?_⟩
    have hT2 : h''.get? s.heap.objs.size = some { cls := .type "tuple", data := .seq #[.int i tk, y] } := (sb.2 _ (Nat.ne_of_gt hel)).trans hT
    have new : ObjOk X.prog X.w (upd H s.heap.objs.size (.tup [.int (i : Nat), x])) h'' s.heap.objs.size (.tup [.int (i : Nat), x]) :=
      ⟨by show 2 ≤ sizeLine; decide, [.int i tk, y], .cons ⟨_, rfl⟩ (.cons ru .nil), ⟨_, hT2, rfl, _, rfl⟩⟩
    have I1 : Inv X pins σ (upd H s.heap.objs.size (.tup [.int (i : Nat), x])) { s with heap := h'', toks := tk + 1 } :=
      I.turnedNew (ch := [e, it]) (fun b ob hb q => (sb.2 b (fun z => hb (by simp [z]))).trans (hk b ob (fun z => hb (by simp [z])) (fun z => hb (by simp [z])) q)) hf (Nat.le_refl _) new
    refine ⟨.ref s.heap.objs.size, _, I1, rfl, ⟨_, x, rfl, I.hok.fresh (Nat.le_refl _), rfl, fun ys hy => by rw [I.tuple_inj hy hq]; exact hx⟩, ⟨⟨y, ?_⟩, hst.1.at fun o q => (sb.2 it (Ne.symm hne)).trans q, hne⟩, fun b hb => ?_⟩
    · have e1 : ((i + 1 : Nat) : Int) = (i : Int) + 1 := by omega
      rw [e1]; exact he'
    · have hb' : b < s.heap.objs.size := by
        have e' : b = e ∨ b = it := by simpa using hb
        rcases e' with z | z
        · rw [z]; exact hel
        · rw [z]; exact hil
      rw [upd_ne (Nat.ne_of_lt hb')]
      exact (hf b hb).1
  done := by
    intro X hP hw hK hc i pins s σ H E I hf st hg
    subst hP hw hK
    obtain ⟨⟨old, he⟩, hit, hne⟩ := st
    obtain ⟨xs, hq, hx⟩ := hg
    obtain ⟨its, rv, p, hz⟩ := I.tuple hq
    obtain ⟨f0, f1, f2, f3, f4, f5⟩ := hf it (by simp)
    have hl := rv.length
    have hT : s.TypeIs (.ref e) "enumerate" := ⟨_, he, rfl⟩
    unfold pyNext
    refine wpAny_bind (wpAny_attempt (wpAny_callSpecial?_slot (name := Str.ofString "__next__") hT F.slot_enumerate_next
      (wpAny_call_entry F.slot_enumerate_next hT F.entry_enumerate_next ?_ (F.args_enumerate_next_1 _))))
    show wpAny _ _ (field (.ref e) 2 >>= _) _ _ _
    refine wpAny_bind (wpAny_field he rfl (x := .ref it) rfl ?_)
    refine wpAny_bind (wpAny_nextOf_tuple_end (show X.A.in1.handled = none from I.ok.hd hc) hit p (by simp; omega) fun h' x he' hx' => ?_)
    obtain ⟨o, ho, hc'⟩ := hx'
    refine wpAny_bind (wpAny_isInstance (T := "StopIteration") (b := true) ⟨o, ho, hc'⟩ isSubtype_stop ?_)
    exact wpAny_pure ⟨rfl, I.turned (t' := s.toks) (fun b o hb q => he' b o hb q) f0 f1 f3 f4 f5⟩
  self := fun A i s Q E st h => let ⟨⟨_, he⟩, _⟩ := st; wpAny_pyIter_enum he h
def iEnumA (K : PySem.W.Frag) (ta : TA) : TI := fun σ H R => ta σ H fun vs H1 => ∃ a xs, vs = [.ref a] ∧ ((SqL K H1 a xs ∧ R (Ite K a) H1) ∨ (SqT K H1 a xs ∧ R (IteT K a) H1))
theorem pi_enumA {X : Cx} {e : Expr} {ta : TA} {p pos tpos : Pos} {elts : List Expr} {kk : Nat} (hg : Gl X "enumerate") (hm : X.mg "enumerate" = none) (ha : PA X [e] ta) (hs : starEach [e] X.env = [(false, eval e X.env)] := by rfl) :
    L2.PI X (.Tuple elts kk tpos) (.Call (.Name "enumerate" p) [e] [] pos) (iEnumA X.K ta) := by
  refine ⟨fun pins s σ H R I h => ?_⟩
  refine Call_ (ld_blt I hg hm boot_enumerate (PyProof.Rows.callWith_type1 (thn (ha.run pos pins s σ H _ I h) fun us s1 ⟨vs, H1, I1, r1, q1⟩ => ?_) hs rfl))
  obtain ⟨a, xs, ex, q⟩ := q1
  subst ex
  cases r1 with
  | cons r rr =>
    cases rr
    cases r
    rcases q with ⟨hq, q⟩ | ⟨hq, q⟩
    · obtain ⟨its, rv, p', hz⟩ := I1.list hq
      refine call_enumerate_list p'.isList fun h' he hit hsz hk => wpAny_pyIter_enum he ?_
      have I2 : Inv X pins σ H1 { s1 with heap := h' } := I1.kept (t' := s1.toks) hk
      refine ⟨s1.heap.objs.size + 1, [s1.heap.objs.size + 1, s1.heap.objs.size], _, _, H1, rfl, I2, turn_enum a (s1.heap.objs.size + 1) s1.heap.objs.size, ⟨⟨.none, he⟩, hit, Nat.succ_ne_self _⟩, fun b hb => ?_, q⟩
      have e' : b = s1.heap.objs.size + 1 ∨ b = s1.heap.objs.size := by simpa using hb
      have hle : s1.heap.objs.size ≤ b := by
        rcases e' with z | z
        · rw [z]; exact Nat.le_add_right _ _
        · rw [z]; exact Nat.le_refl _
      exact I1.fpOk hle (I1.hok.fresh hle)
    · obtain ⟨its, rv, p', hz⟩ := I1.tuple hq
      refine enum_begins1 (begins_tuple a its.toArray) p' fun h' he hit hsz hk => wpAny_pyIter_enum he ?_
      have I2 : Inv X pins σ H1 { s1 with heap := h' } := I1.kept (t' := s1.toks) hk
      refine ⟨s1.heap.objs.size + 1, [s1.heap.objs.size + 1, s1.heap.objs.size], _, _, H1, rfl, I2, turn_enumT a (s1.heap.objs.size + 1) s1.heap.objs.size, ⟨⟨.none, he⟩, ⟨_, hit, rfl, rfl⟩, Nat.succ_ne_self _⟩, fun b hb => ?_, q⟩
      have e' : b = s1.heap.objs.size + 1 ∨ b = s1.heap.objs.size := by simpa using hb
      have hle : s1.heap.objs.size ≤ b := by
        rcases e' with z | z
        · rw [z]; exact Nat.le_add_right _ _
        · rw [z]; exact Nat.le_refl _
      exact I1.fpOk hle (I1.hok.fresh hle)
end
section
variable {X : Cx} {G : Gx} {W : WX} {pos p : Pos} {a b : Expr} {da db : Den}
theorem enum_tup {ρ0 : List Addr} {H0 : Hp} {p : Addr} {vs : List V} {ds : List D} (hs : SqT G.K H0 p vs) (r : RDs G ρ0 H0 vs ds) : ItOk G ρ0 H0 (.its (enumD 0 ds)) (IteT G.K p) := by
  intro ρ h H l hr _ i
  have a1 := l.tup _ _ hs
  have b1 := r.mono l
  refine ⟨fun d e => ?_, fun hi => ⟨vs, a1, ?_⟩⟩
  · obtain ⟨x, ex, rfl⟩ := enumD_at (show (enumD 0 ds)[i]? = some d from e)
    obtain ⟨v, g1, g2⟩ := b1.get ex
    refine ⟨⟨vs, v, a1, g1⟩, fun z H' hy => ?_⟩
    obtain ⟨T, v', rfl, hT, rfl, f1⟩ := hy
    have e1 := f1 vs a1
    rw [g1] at e1
    cases e1
    have lt := Le.new (G := G) (ρ := ρ) (ho := .tup [.int (i : Nat), v]) hT
    rw [show (0 + i : Nat) = i by omega]
    exact ⟨ρ, lt, hr.beside hT, .tup (SqT.of upd_same) ((RDs.cons (.int _) (.cons g2 .nil)).mono lt)⟩
  · have hi : (enumD 0 ds).length ≤ i := hi
    rw [enumD_len] at hi
    rw [b1.length]
    exact hi
theorem enum_rl {ρ0 : List Addr} {H0 : Hp} {p : Addr} {vs : List V} {ds : List D} (hs : SqR G.K H0 p vs) (r : RDs G ρ0 H0 vs ds) : ItOk G ρ0 H0 (.its (enumD 0 ds)) (Ite G.K p) := by
  intro ρ h H l hr _ i
  have a1 := (l.rol _ _ hs).sq
  have b1 := r.mono l
  refine ⟨fun d e => ?_, fun hi => ⟨vs, a1, ?_⟩⟩
  · obtain ⟨x, ex, rfl⟩ := enumD_at (show (enumD 0 ds)[i]? = some d from e)
    obtain ⟨v, g1, g2⟩ := b1.get ex
    refine ⟨⟨vs, v, a1, g1⟩, fun z H' hy => ?_⟩
    obtain ⟨T, v', rfl, hT, rfl, f1⟩ := hy
    have e1 := f1 vs a1
    rw [g1] at e1
    cases e1
    have lt := Le.new (G := G) (ρ := ρ) (ho := .tup [.int (i : Nat), v]) hT
    rw [show (0 + i : Nat) = i by omega]
    exact ⟨ρ, lt, hr.beside hT, .tup (SqT.of upd_same) ((RDs.cons (.int _) (.cons g2 .nil)).mono lt)⟩
  · have hi : (enumD 0 ds).length ≤ i := hi
    rw [enumD_len] at hi
    rw [b1.length]
    exact hi
theorem enum_lst {ρ0 : List Addr} {H0 : Hp} {n : Nat} {p : Addr} {ds : List D} (q : ρ0[n]? = some p) : ItOk G ρ0 H0 (.enl n ds) (Ite G.K p) := by
  intro ρ h H l hr st i
  have q' := l.at q
  have e : lstAt h n = some ds := by
    simp only [Wk.still] at st
    split at st
    · rename_i ys g
      rw [g, D.sameL_eq _ _ st]
    · cases st
  obtain ⟨vs, g1, b1⟩ := sql_of hr q' e
  have a1 : SqL G.K H p vs := SqL.of g1
  refine ⟨fun d e => ?_, fun hi => ⟨vs, a1, ?_⟩⟩
  · obtain ⟨x, ex, rfl⟩ := enumD_at (show (enumD 0 ds)[i]? = some d from e)
    obtain ⟨v, g1, g2⟩ := b1.get ex
    refine ⟨⟨vs, v, a1, g1⟩, fun z H' hy => ?_⟩
    obtain ⟨T, v', rfl, hT, rfl, f1⟩ := hy
    have e1 := f1 vs a1
    rw [g1] at e1
    cases e1
    have lt := Le.new (G := G) (ρ := ρ) (ho := .tup [.int (i : Nat), v]) hT
    rw [show (0 + i : Nat) = i by omega]
    exact ⟨ρ, lt, hr.beside hT, .tup (SqT.of upd_same) ((RDs.cons (.int _) (.cons g2 .nil)).mono lt)⟩
  · have hi : (enumD 0 ds).length ≤ i := hi
    rw [enumD_len] at hi
    rw [b1.length]
    exact hi
theorem iw_enum {elts : List Expr} {kk : Nat} {tpos : Pos} (hK : G.K = X.K) (ha : PE X a (tI G W da)) (hm : X.mg "enumerate" = none) (hg : Gl X "enumerate" := by rfl)
    (he : starEach [a] X.env = (false, eval a X.env) :: starEach [] X.env := by rfl) (hs : starEach [a] X.env = [(false, eval a X.env)] := by rfl) :
    L2.PI X (.Tuple elts kk tpos) (.Call (.Name "enumerate" p) [a] [] pos) (tW G W (wEnum da)) := by
  refine pi_imp (pi_enumA hg hm (pa_cons ha pa_nil he) hs) fun σ H R ⟨ρ, h, e, hr, er, p⟩ => ?_
  refine tI.intro hr er (PostW.bind p) fun ρ1 h1 H1 x v l1 hr1 r1 p1 => ?_
  cases r1 with
  | tup hs rs => exact ⟨_, _, rfl, .inr ⟨hK ▸ hs, p1 ρ1 H1 _ Le.refl hr1 (hK ▸ enum_tup hs rs)⟩⟩
  | rl hs rs => exact ⟨_, _, rfl, .inl ⟨hK ▸ hs.sq, p1 ρ1 H1 _ Le.refl hr1 (hK ▸ enum_rl hs rs)⟩⟩
  | ref q =>
    simp only at p1
    split at p1
    · rename_i xs g
      obtain ⟨vs, g1, g2⟩ := sql_of hr1 q g
      exact ⟨_, _, rfl, .inl ⟨SqL.of g1, p1 ρ1 H1 _ Le.refl hr1 (hK ▸ enum_lst q)⟩⟩
    · exact p1.elim
  | _ => exact False.elim p1
/-! ### sep.join -/
theorem strs_vals {ρ : List Addr} {H : Hp} : ∀ {vs : List V} {ds : List D} {ys : List (List Nat)}, RDs G ρ H vs ds → strsOf ds = some ys → ∃ zs : List Str, vs = zs.map V.str ∧ zs.map (fun z => z.cps.toList) = ys
  | _, _, _, .nil, e => by
    cases e
    exact ⟨[], rfl, rfl⟩
  | _, _, _, .cons r rs, e => by
    cases r with
    | str x =>
      simp only [strsOf, Option.map_eq_some_iff] at e
      obtain ⟨ys, e1, rfl⟩ := e
      obtain ⟨zs, h1, h2⟩ := strs_vals rs e1
      exact ⟨x :: zs, by rw [h1]; rfl, by rw [List.map_cons, h2]⟩
    | _ => cases e
theorem joinN_eq (s : List Nat) : ∀ ys : List (List Nat), joinN s ys = TL.joinL s ys
  | [] => rfl
  | [p] => rfl
  | p :: q :: r => by
    rw [joinN, TL.joinL, joinN_eq s (q :: r)]
theorem join_cps (a : Str) (zs : List Str) : (Txt.join a zs).cps.toList = joinN a.cps.toList (zs.map fun z => z.cps.toList) := by
  rw [joinN_eq]
  exact (congrArg TL.tl (TL.join_eq a zs)).trans (TL.tl_join a zs)
theorem ie_join {apos : Pos} (ha : PE X a (tI G W da)) (hb : PE X b (tI G W db)) (hK : G.K = X.K) (hs : starEach [b] X.env = [(false, eval b X.env)] := by rfl) (hbase : attributeBase a "join" X.env (eval a X.env) = eval a X.env := by rfl) (hline : (apos.endLine == pos.line) = true := by rfl) :
    PE X (.Call (.Attribute a "join" apos) [b] [] pos) (tI G W (dJoin da db)) := by
  refine pe_imp (pe_join ha hb hs hbase hline) fun σ H Q ⟨ρ, h, e, hr, er, p⟩ => ?_
  refine tI.intro hr er (Post.bind p) fun ρ1 h1 H1 x v l1 hr1 r1 p1 => ?_
  split at p1
  case isFalse => exact p1.elim
  rename_i c0
  have hs' : ∃ s : Str, v = V.str s := by
    cases r1 <;> first
      | exact ⟨_, rfl⟩
      | cases c0
  refine ⟨hs', ?_⟩
  refine tI.intro hr1 (er.mono l1) (Post.bind p1) fun ρ2 h2 H2 y w l2 hr2 r2 p2 => ?_
  have r1' := r1.mono l2
  cases r1' with
  | str s =>
    simp only [oJoin] at p2
    split at p2
    · rename_i ys g
      split at p2
      · rename_i c
        obtain ⟨ds, g1, g2⟩ := Option.bind_eq_some_iff.mp g
        have c' := of_decide_eq_true c
        have key : ∀ {vs : List V}, RDs G ρ2 H2 vs ds → ∃ zs : List Str, vs = zs.map V.str ∧ (zs.map (·.length)).sum + zs.length * s.length ≤ 16777216 ∧ Q (.str (Txt.join s zs)) H2 := fun {vs} r => by
          obtain ⟨zs, h1, h2⟩ := strs_vals r g2
          refine ⟨zs, h1, ?_, post_here p2 hr2 (rd_str ?_)⟩
          · have e1 : zs.map (·.length) = ys.map List.length := by
              rw [← h2, List.map_map]
              refine List.map_congr_left fun z _ => ?_
              exact len_str z
            have e2 : zs.length = ys.length := by rw [← h2, List.length_map]
            rw [e1, e2, len_str]
            unfold SL at c'
            exact c'
          · rw [join_cps, h2]
        cases r2 with
        | tup hs rs =>
          cases g1
          obtain ⟨zs, rfl, h2, h3⟩ := key rs
          exact ⟨s, _, zs, rfl, rfl, .inr (hK ▸ hs), h2, h3⟩
        | rl hs rs =>
          cases g1
          obtain ⟨zs, rfl, h2, h3⟩ := key rs
          exact ⟨s, _, zs, rfl, rfl, .inl (hK ▸ hs.sq), h2, h3⟩
        | ref q =>
          obtain ⟨vs, g3, g4⟩ := sql_of hr2 q g1
          obtain ⟨zs, rfl, h2, h3⟩ := key g4
          exact ⟨s, _, zs, rfl, rfl, .inl (SqL.of g3), h2, h3⟩
        | _ => cases g1
      · exact p2.elim
    · exact p2.elim
  | _ => exact p2.elim
end
end PI
/-! ## Pi9 -/
set_option Elab.async false
set_option linter.all false
set_option maxRecDepth 100000
set_option maxHeartbeats 1000000
set_option autoImplicit false
/-! PI, part 9: the end of a row. -/
namespace PI
open PySem L2
def mkD (x : Str) (st : Stmt) : He.DefD := ⟨(x, none), x, x, defArgs st, defBody st, defScope st, [], []⟩
def FunOk (K : PySem.W.Frag) (mg : Str → Option Value) (x : Str) (st : Stmt) (ps : List Str) : Prop := ∃ f fd, Fun K x x st f fd ∧ mg x = some (.ref f) ∧ Binds K fd ps []
/-- its arguments' number and names alone decide how they bind -/
abbrev BindW (x : Str) (st : Stmt) (ps : List Str) : Prop := ∀ (kV doc pm : Value) (an : Option Addr) (cdv ct : Value) (us : List Value), us.length = ps.length → bindArgs (PySem.W.fnOf x x (defArgs st) (defBody st) (defScope st) .none kV doc pm an cdv ct) ⟨us, []⟩ = pure (ps.zip us)
section
variable {K : PySem.W.Frag} {mg : Str → Option Value} {h : Heap} {x : Str} {st : Stmt} {ps : List Str} {fa : List He.Fa} {fn : List He.DefD}
theorem fun_of (c : He.SaysD fa fn K) (i : Nat) (hd : fn[i]? = some (mkD x st) := by rfl) : ∃ fd, Fun K x x st (He.ga K x) fd := by
  obtain ⟨fd, F⟩ := c.def_ i hd
  refine ⟨fd, ?_, F.kp⟩
  obtain ⟨oc, od, dV, kV, doc, pm, an, cdv, ct, osl, e, lk, hcd, hD, _⟩ := F.ex
  rcases hD with ⟨_, rfl⟩ | ⟨n, _⟩
  · exact ⟨oc, od, kV, doc, pm, an, cdv, ct, osl, e, lk, hcd⟩
  · exact absurd rfl n
theorem funOk_of (X : K.In h) (G : h.Ns mainGlobals mg) (c : He.SaysD fa fn K) (i j : Nat) (hb : BindW x st ps) (hd : fn[i]? = some (mkD x st) := by rfl) (hf : fa[j]? = some (.glo x) := by rfl) : FunOk K mg x st ps := by
  obtain ⟨fd, F⟩ := fun_of c i hd
  exact ⟨_, fd, F, He.glo_ok X G (c.fact j hf), F.binds hb⟩
variable {P : Program} {w : World} {base : Heap} {G : Gx} {N : List Str} {n np : Nat} {g : List D → Hh → Res D} {b : SDen}
theorem cal_zero (F : FunOk K mg x st ps) (hg : ∀ ds h, g ds h = .bad) (hn : np = ps.length) : CalOk P w K mg base G 0 x np g := by
  obtain ⟨f, fd, F, hm, hb⟩ := F
  refine ⟨f, fd, ps, hm, F.kp, hb, fun vs H Q E ⟨ρ, h, ds, hr, r, hl, p⟩ => ?_, fun A outer s H args us vs Q E _ _ _ _ ⟨ρ, h, ds, hr, r, hl, p⟩ => ?_⟩
  · rw [r.length, hl, hn]
  · rw [hg] at p
    exact p.elim
theorem cal_succ (F : FunOk K mg x st ps) (S : FnScope N ps (defScope st))
    (hb : ∀ (f : Addr) (cdv : Value) (A : Around) (outer : List Env) (s : Shared) (H : Hp) (E : XK), Room n (A.deeper (PyProof.Rows.envOfC x (defScope st) s.heap.objs.size f cdv)) →
      PSs (cxOf (L2.CX P w) P w K mg base N x (defScope st) f cdv A outer s H E) (defBody st) (tS G (fun cls d _ H => E cls d H) b)) :
    CalOk P w K mg base G (n + 1) x ps.length (fun ds h => runBody N.length b ps.length ds h) := by
  obtain ⟨f, fd, F, hm, hb'⟩ := F
  exact ⟨f, fd, ps, hm, F.kp, hb', fn_I F S fun cdv A outer s H E hr => hb f cdv A outer s H E hr⟩
end
/-- a law: F gives the written part, the function object, the promise over every base; the script's bits are told -/
theorem walk_ofEB {l : PySem.W.OpenLaw} {n k : Nat} {q : Program} {loose : List Str} {XP : (Str → Option Value) → Heap → Prop} {YP : World → Heap → Prop} {d : DefRec} {CX : World → CXT} {x : Str}
    (hn : l.most = some n) (hn2 : n ≤ sizeLine) (hdf : d.params.defaults = []) (hr : Room k callerA)
    (F : ∀ (w : World) (mg : Str → Option Value) (fa : Addr) (h : Heap), YP w h → h.Ns mainGlobals mg → mg d.name = some (.ref fa) →
      ∃ (K : PySem.W.Frag) (fd : FuncData) (sp : Sp), K.In h ∧ (∀ (s : Shared) (u : Value), BindsTo s fd ⟨[u], []⟩ [(x, u)]) ∧
        (∀ (H : Hp) (a : Addr) (ns : List Int), ns.length ≤ n → (∀ z ∈ ns, Builtin.Int.intBits z ≤ 1048576) → Only H → SqL K H a (ns.map V.int) → sp [.ref a] H (fun v _ => v = .bl true) fun _ _ _ => False) ∧
        ∀ base : Heap, K.In base → base.Ns mainGlobals mg → FnOk l.prog w K mg base (CX w) k fa fd [x] sp)
    (hCX : ∀ (w : World) (H : Hp) (s : Shared) (e : Value) (s' : Shared), CX w [] H s (fun _ _ _ => False) e s' → False) :
    PySem.W.WalkO q loose XP YP l.row.toRowW d [] (fun f vs => PySem.call f vs) := by
  refine Att.attach_callB hn hdf fun w s₀ s₁ mg mb fa o pm cd doc a vs ns G Y ho hd hcd hmg hobj hints hlen hbits hg => ?_
  obtain ⟨K, fd, sp, KX, hb, hsp, hF⟩ := F w mg fa _ Y G.T.g hmg
  exact law_call KX G.T.g G.T.b G.T.builtins G.T.nolimit hg hobj hints (Nat.le_trans hlen hn2) hr hF hb (fun H hO hS => hsp H a ns hlen hbits hO hS) fun H e s' => hCX w H s₁ e s'
theorem bits_log {z : Int} (h : Builtin.Int.intBits z ≤ 1048576) : z.natAbs.log2 < 1048576 := by
  unfold Builtin.Int.intBits at h
  split at h
  · rename_i e
    have e : z = 0 := eq_of_beq e
    rw [e]
    decide
  · omega
theorem rds_ints (G : Gx) (ρ : List Addr) (H : Hp) : ∀ ns : List Int, RDs G ρ H (ns.map V.int) (ns.map D.int)
  | [] => .nil
  | n :: ns => .cons (.int n) (rds_ints G ρ H ns)
/-- the law's promise out of its plain statement -/
theorem sp_law {K : PySem.W.Frag} {G : Gx} {n : Nat} {g : List D → Hh → Res D} (hK : G.K = K) (hp : ∀ ns : List Int, ns.length ≤ n → (∀ z ∈ ns, z.natAbs.log2 < 1048576) → ∃ h', g [.rl (ns.map D.int)] [] = .ok (.bl true) h')
    (H : Hp) (a : Addr) (ns : List Int) (hl : ns.length ≤ n) (hb : ∀ z ∈ ns, Builtin.Int.intBits z ≤ 1048576) (hO : Only H) (hS : SqL K H a (ns.map V.int)) : spI G 1 g [.ref a] H (fun v _ => v = .bl true) fun _ _ _ => False := by
  subst hK
  have hR : SqR G.K H a (ns.map V.int) := by
    rcases hS with (h | ⟨u, h⟩) | h
    · rcases hO a with q | ⟨o, xs, q⟩
      · rw [h] at q
        cases q
      · rw [h] at q
        cases q
    · exact .inl ⟨u, h⟩
    · exact .inr h
  obtain ⟨h', e⟩ := hp ns hl fun z hz => bits_log (hb z hz)
  refine ⟨[], [], [.rl (ns.map D.int)], ⟨rfl, List.nodup_nil, fun i a o e _ => by simp at e⟩, .one (.rl hR (rds_ints G [] H ns)), rfl, ?_⟩
  rw [e]
  intro ρ' v H' l hr r
  cases r
  rfl
end PI
namespace PI
open PySem L2
theorem law_fd {K : PySem.W.Frag} {x : Str} {st : Stmt} {ps : List Str} {fa : List He.Fa} {fn : List He.DefD} (c : He.SaysD fa fn K) (i : Nat) (hb : BindW x st ps) (hd : fn[i]? = some (mkD x st) := by rfl) :
    ∃ fd, Fun K x x st (He.ga K x) fd ∧ ∀ (s : Shared) (us : List Value), us.length = ps.length → BindsTo s fd ⟨us, []⟩ (ps.zip us) := by
  obtain ⟨fd, F⟩ := fun_of c i hd
  refine ⟨fd, F, fun s us hl => ?_⟩
  obtain ⟨oc, od, kV, doc, pm, an, cdv, ct, osl, e, lk, hcd⟩ := F.ex
  subst e
  exact .of_eq (hb kV doc pm an cdv ct us hl)
theorem cx_none {P : Program} {w : World} {H : Hp} {s : Shared} {e : Value} {s' : Shared} (z : L2.CX P w [] H s (fun _ _ _ => False) e s') : False := by
  obtain ⟨_, _, _, _, _, _, _, _, _, _, _, _, z⟩ := z
  exact z.elim
end PI
/-! ## PiK -/
set_option Elab.async false
set_option linter.all false
set_option maxRecDepth 100000
set_option maxHeartbeats 1000000
set_option autoImplicit false
/-! PI: constants of the module that are tuples, lists. -/
namespace PI
open PySem L2
mutual
/-- the value u of the written part is the datum d -/
def konB (K : PySem.W.Frag) : D → Value → Bool
  | .non, .none => true
  | .bl a, .bool b => a == b
  | .int i, .int j _ => decide (i = j)
  | .str s, .str x _ => decide (x.cps.toList = s)
  | .tup ds, .ref a => (match K.lookup a with
    | some ⟨.type c, _, .seq its _, _⟩ => decide (c = "tuple") && (decide (its.size ≤ sizeLine) && konL K ds its.toList)
    | _ => false)
  | .rl ds, .ref a => (match K.lookup a with
    | some ⟨.type c, none, .seq its _, _⟩ => decide (c = "list") && (decide (its.size ≤ sizeLine) && konL K ds its.toList)
    | _ => false)
  | _, _ => false
def konL (K : PySem.W.Frag) : List D → List Value → Bool
  | [], [] => true
  | d :: ds, u :: us => konB K d u && konL K ds us
  | _, _ => false
end
/-- the value that stands for u -/
def valOf : Value → V
  | .none => .non
  | .bool b => .bl b
  | .int i _ => .int i
  | .str x _ => .str x
  | .ref a => .ref a
  | _ => .non
mutual
theorem konB_ok {K : PySem.W.Frag} : ∀ {d : D} {u : Value}, konB K d u = true → RelV (valOf u) u ∧ ∀ (G : Gx) (ρ : List Addr) (H : Hp), G.K = K → RD G ρ H (valOf u) d
  | .non, u, h => by
    cases u <;> first
      | (cases h; done)
      | exact ⟨rfl, fun _ _ _ _ => .non⟩
  | .bl a, u, h => by
    cases u <;> first
      | (cases h; done)
      | skip
    rename_i b
    have e : a = b := eq_of_beq h
    subst e
    exact ⟨rfl, fun _ _ _ _ => .bl a⟩
  | .int i, u, h => by
    cases u <;> first
      | (cases h; done)
      | skip
    rename_i j t
    have e : i = j := of_decide_eq_true h
    subst e
    exact ⟨⟨t, rfl⟩, fun _ _ _ _ => .int i⟩
  | .str s, u, h => by
    cases u <;> first
      | (cases h; done)
      | skip
    rename_i x t
    have e : x.cps.toList = s := of_decide_eq_true h
    subst e
    exact ⟨⟨t, rfl⟩, fun _ _ _ _ => .str x⟩
  | .tup ds, u, h => by
    cases u <;> first
      | (simp [konB] at h; done)
      | skip
    rename_i a
    rw [konB] at h
    split at h
    · rename_i c od its n sl q
      rw [Bool.and_eq_true, Bool.and_eq_true] at h
      obtain ⟨h1, h2, h3⟩ := h
      obtain ⟨vr, rd⟩ := konL_ok h3
      refine ⟨rfl, fun G ρ H hK => .tup (.inr ⟨_, its, n, hK ▸ q, congrArg Value.type (of_decide_eq_true h1), rfl, of_decide_eq_true h2, vr⟩) (rd G ρ H hK)⟩
    · cases h
  | .rl ds, u, h => by
    cases u <;> first
      | (simp [konB] at h; done)
      | skip
    rename_i a
    rw [konB] at h
    split at h
    · rename_i c its n sl q
      rw [Bool.and_eq_true, Bool.and_eq_true] at h
      obtain ⟨h1, h2, h3⟩ := h
      obtain ⟨vr, rd⟩ := konL_ok h3
      refine ⟨rfl, fun G ρ H hK => .rl (.inr ⟨_, its, n, hK ▸ q, congrArg Value.type (of_decide_eq_true h1), rfl, rfl, of_decide_eq_true h2, vr⟩) (rd G ρ H hK)⟩
    · cases h
  | .ref _, u, h => by simp [konB] at h
  | .cv _, u, h => by simp [konB] at h
theorem konL_ok {K : PySem.W.Frag} : ∀ {ds : List D} {us : List Value}, konL K ds us = true → Vals (us.map valOf) us ∧ ∀ (G : Gx) (ρ : List Addr) (H : Hp), G.K = K → RDs G ρ H (us.map valOf) ds
  | [], us, h => by
    cases us with
    | nil => exact ⟨.nil, fun _ _ _ _ => .nil⟩
    | cons _ _ => simp [konL] at h
  | d :: ds, us, h => by
    cases us with
    | nil => simp [konL] at h
    | cons u us =>
      rw [konL, Bool.and_eq_true] at h
      obtain ⟨a1, a2⟩ := konB_ok h.1
      obtain ⟨b1, b2⟩ := konL_ok h.2
      exact ⟨.cons a1 b1, fun G ρ H hK => .cons (a2 G ρ H hK) (b2 G ρ H hK)⟩
end
/-- the module's name x stands for d -/
def konN (K : PySem.W.Frag) (x : Str) (d : D) : Bool := match PySem.W.nsIn K mainGlobals x with
  | some (some u) => konB K d u
  | _ => false
/-- what is told of a constant -/
def Kon (K : PySem.W.Frag) (mg : Str → Option Value) (x : Str) (d : D) : Prop := ∃ u, mg x = some u ∧ RelV (valOf u) u ∧ ∀ (G : Gx) (ρ : List Addr) (H : Hp), G.K = K → RD G ρ H (valOf u) d
theorem konN_ok {K : PySem.W.Frag} {h : Heap} {mg : Str → Option Value} {x : Str} {d : D} (X : K.In h) (N : h.Ns mainGlobals mg) (c : konN K x d = true) : Kon K mg x d := by
  unfold konN at c
  split at c
  · rename_i u q
    obtain ⟨a, b⟩ := konB_ok c
    exact ⟨u, PySem.W.mg_of X N q, a, b⟩
  · cases c
theorem ie_kon {X : Cx} {G : Gx} {W : WX} {p : Pos} {K : PySem.W.Frag} {x : Str} {d : D} (k : Kon K X.mg x d) (hK : G.K = K) (hg : Gl X x) (hd : (x == ("__debug__" : Str)) = false) : PE X (.Name x p) (tI G W (dC d)) := by
  obtain ⟨u, h1, h2, h3⟩ := k
  exact ie_glob h1 h2 (fun ρ H => h3 G ρ H hK) hg hd
/-! ### the Hook with more told of K -/
def obsE (n : Nat) (fa : List He.Fa) (fn : List He.DefD) (ex : PySem.W.Frag → Bool) (g : Addr → Option Obj) : He.AlD × Bool := (He.obsD fa fn (He.frG g (He.asD g n)), ex (He.frG g (He.asD g n)))
def hookE (n : Nat) (fa : List He.Fa) (fn : List He.DefD) (ex : PySem.W.Frag → Bool) : PySem.W.Hook where
  α := He.AlD × Bool
  obs := fun s => obsE n fa fn ex s.heap.get?
  val := fun _ => (He.valD fn, true)
  says := fun _ h => ∃ K : PySem.W.Frag, K.In h ∧ He.SaysD fa fn K ∧ ex K = true
  of := fun _ _ e => ⟨_, He.frG_in, congrArg (fun z : He.AlD × Bool => z.1) e, congrArg (fun z : He.AlD × Bool => z.2) e⟩
  keeps := fun _ _ _ ⟨K, hK, c⟩ k => ⟨K, PySem.W.Frag.In.keeps hK k, c⟩
theorem obsE_eq {n : Nat} {fa : List He.Fa} {fn : List He.DefD} {ex : PySem.W.Frag → Bool} {g : Addr → Option Obj} {s : Shared} (h : ∀ a, g a = s.heap.get? a) : obsE n fa fn ex g = (hookE n fa fn ex).obs s := by
  have e : g = s.heap.get? := funext h
  rw [e] <;> rfl
end PI
/-! ## PiL -/
set_option Elab.async false
set_option linter.all false
set_option maxRecDepth 100000
set_option maxHeartbeats 1000000
set_option autoImplicit false
/-! PI, the plain side: what a denotation gives, from the left. -/
namespace PI
variable {α β : Type}
/-- one step back: q is enough for p -/
class Red (p : Prop) (q : outParam Prop) : Prop where
  go : q → p
theorem red {p q : Prop} [i : Red p q] (h : q) : p := i.go h
/-- r gives an answer of which Q holds -/
def Sat (r : Res α) (Q : α → Hh → Prop) : Prop := ∃ a h, r = .ok a h ∧ Q a h
section
variable {r : Res α} {Q P : α → Hh → Prop} {a : α} {h : Hh}
theorem Sat.ok (q : Q a h) : Sat (.ok a h) Q := ⟨a, h, rfl, q⟩
theorem Sat.of (e : r = .ok a h) (q : Q a h) : Sat r Q := ⟨a, h, e, q⟩
theorem Sat.mono (s : Sat r P) (f : ∀ a h, P a h → Q a h) : Sat r Q := by
  obtain ⟨a, h, e, p⟩ := s
  exact ⟨a, h, e, f a h p⟩
theorem Sat.bind {k : α → Hh → Res β} {Q : β → Hh → Prop} (s : Sat r fun a h => Sat (k a h) Q) : Sat (r.bind k) Q := by
  obtain ⟨a, h, rfl, p⟩ := s
  exact p
theorem Sat.bn {k : α → Hh → Res β} {Q : β → Hh → Prop} (s : Sat r fun a h => Sat (k a h) Q) : Sat (r.bn k) Q := by
  obtain ⟨a, h, rfl, p⟩ := s
  exact p
theorem Sat.sb {e : En} {k : α → Hh → Res Fl} {Q : Fl → Hh → Prop} (s : Sat r fun a h => Sat (k a h) Q) : Sat (r.sb e k) Q := by
  obtain ⟨a, h, rfl, p⟩ := s
  exact p
theorem Sat.opt {γ : Type} {o : Option γ} {g : γ → Res α} {b : Res α} {z : γ} (e : o = some z) (s : Sat (g z) Q) : Sat (match o with | some z => g z | none => b) Q := by
  subst e
  exact s
end
/-- a choice by a bool -/
def ifK (x : Bool) (A B : Prop) : Prop := if x = true then A else B
theorem ifK.t {x : Bool} {A B : Prop} (e : x = true) (a : A) : ifK x A B := by
  unfold ifK
  rw [if_pos e]
  exact a
theorem ifK.f {x : Bool} {A B : Prop} (e : x = false) (b : B) : ifK x A B := by
  unfold ifK
  rw [e, if_neg Bool.false_ne_true]
  exact b
theorem ifK.both {x : Bool} {A B : Prop} (a : x = true → A) (b : x = false → B) : ifK x A B := by
  cases x
  · exact ifK.f rfl (b rfl)
  · exact ifK.t rfl (a rfl)
theorem ifK.d {p : Prop} [Decidable p] {A B : Prop} (a : p → A) (b : ¬ p → B) : ifK (decide p) A B := ifK.both (fun e => a (of_decide_eq_true e)) fun e => b (of_decide_eq_false e)
theorem ifK.n {x : Bool} {A B : Prop} (a : ifK x B A) : ifK (!x) A B := by
  cases x
  · exact a
  · exact a
instance {x : Bool} {A B : Prop} : Red (ifK (!x) A B) (ifK x B A) := ⟨ifK.n⟩
/-- x is a bool, an int, a tuple, a list that stands; its truth; a list of allowed length; the arguments' number -/
def blK (x : D) (k : Bool → Prop) : Prop := ∃ b, x = .bl b ∧ k b
def intK (x : D) (k : Int → Prop) : Prop := ∃ b, x = .int b ∧ k b
def tupK (x : D) (k : List D → Prop) : Prop := ∃ b, x = .tup b ∧ k b
def trK (h : Hh) (x : D) (k : Bool → Prop) : Prop := ∃ b, truth h x = some b ∧ k b
def szK (xs : List D) (A : Prop) : Prop := xs.length ≤ SL ∧ A
def npK (xs : List D) (n : Nat) (A : Prop) : Prop := xs.length = n ∧ A
def isaK (h : Hh) (ty : Ty) (x : D) (k : Bool → Prop) : Prop := ∃ b, isA h ty x = some b ∧ k b
def lsK (h : Hh) (x : D) (A : Prop) : Prop := isLst h x = true ∧ A
theorem blK.mk {b : Bool} {k : Bool → Prop} (q : k b) : blK (.bl b) k := ⟨b, rfl, q⟩
instance {b : Bool} {k : Bool → Prop} : Red (blK (.bl b) k) (k b) := ⟨blK.mk⟩
theorem intK.mk {b : Int} {k : Int → Prop} (q : k b) : intK (.int b) k := ⟨b, rfl, q⟩
instance {b : Int} {k : Int → Prop} : Red (intK (.int b) k) (k b) := ⟨intK.mk⟩
theorem tupK.mk {b : List D} {k : List D → Prop} (q : k b) : tupK (.tup b) k := ⟨b, rfl, q⟩
instance {b : List D} {k : List D → Prop} : Red (tupK (.tup b) k) (k b) := ⟨tupK.mk⟩
theorem trK.bl {h : Hh} {b : Bool} {k : Bool → Prop} (q : k b) : trK h (.bl b) k := ⟨b, rfl, q⟩
instance {h : Hh} {b : Bool} {k : Bool → Prop} : Red (trK h (.bl b) k) (k b) := ⟨trK.bl⟩
theorem trK.int {h : Hh} {i : Int} {k : Bool → Prop} (q : k (!decide (i = 0))) : trK h (.int i) k := ⟨i != 0, rfl, by
  have e : (i != 0) = !decide (i = 0) := by
    by_cases c : i = 0
    · subst c
      rfl
    · rw [decide_eq_false c]
      exact bne_iff_ne.mpr c
  rw [e]
  exact q⟩
instance {h : Hh} {i : Int} {k : Bool → Prop} : Red (trK h (.int i) k) (k (!decide (i = 0))) := ⟨trK.int⟩
theorem trK.tup {h : Hh} {xs : List D} {k : Bool → Prop} (q : k (!xs.isEmpty)) : trK h (.tup xs) k := ⟨_, rfl, q⟩
instance {h : Hh} {xs : List D} {k : Bool → Prop} : Red (trK h (.tup xs) k) (k (!xs.isEmpty)) := ⟨trK.tup⟩
theorem trK.non {h : Hh} {k : Bool → Prop} (q : k false) : trK h .non k := ⟨_, rfl, q⟩
instance {h : Hh} {k : Bool → Prop} : Red (trK h .non k) (k false) := ⟨trK.non⟩
theorem trK.lst {h : Hh} {n : Nat} {xs : List D} {k : Bool → Prop} (e : h[n]? = some (.lst xs)) (q : k (!xs.isEmpty)) : trK h (.ref n) k := ⟨_, by simp only [truth, e], q⟩
theorem szK.mk {xs : List D} {A : Prop} (c : xs.length ≤ SL) (q : A) : szK xs A := ⟨c, q⟩
theorem npK.mk {xs : List D} {n : Nat} {A : Prop} (c : xs.length = n) (q : A) : npK xs n A := ⟨c, q⟩
theorem isaK.mk {h : Hh} {ty : Ty} {x : D} {b : Bool} {k : Bool → Prop} (c : isA h ty x = some b) (q : k b) : isaK h ty x k := ⟨b, c, q⟩
theorem isaK.lst {h : Hh} {ty : Ty} {n : Nat} {xs : List D} {k : Bool → Prop} (e : h[n]? = some (.lst xs)) (q : k (decide (ty = .list))) : isaK h ty (.ref n) k := ⟨_, by simp only [isA, e], q⟩
theorem lsK.mk {h : Hh} {n : Nat} {xs : List D} {A : Prop} (e : h[n]? = some (.lst xs)) (q : A) : lsK h (.ref n) A := ⟨by
  simp only [isLst, listOf, lstAt, e]
  rfl, q⟩
section
variable {e : En} {h : Hh} {Q : D → Hh → Prop} {QB : Bool → Hh → Prop} {QA : List D → Hh → Prop} {QF : Fl → Hh → Prop} {QE : En → Hh → Prop} {QW : Wk → Hh → Prop} {d : D} {a b c : Den} {i : Nat} {f g : D → D → Hh → Res D} {t u : TDen} {r : ADen} {ds : List D}
/-! ### expressions -/
theorem Sat.var (q : e[i]? = some (some d)) (s : Q d h) : Sat (dVar i e h) Q := by
  unfold dVar
  rw [q]
  exact .ok s
theorem Sat.con (s : Q d h) : Sat (dC d e h) Q := .ok s
instance  : Red (Sat (dC d e h) Q) (Q d h) := ⟨Sat.con⟩
theorem Sat.bin (s : Sat (a e h) fun x h1 => Sat (b e h1) fun y h2 => Sat (f x y h2) Q) : Sat (dBin f a b e h) Q := .bind (s.mono fun _ _ s => .bind s)
instance  : Red (Sat (dBin f a b e h) Q) (Sat (a e h) fun x h1 => Sat (b e h1) fun y h2 => Sat (f x y h2) Q) := ⟨Sat.bin⟩
theorem Sat.un {f : D → Hh → Res D} (s : Sat (a e h) fun x h1 => Sat (f x h1) Q) : Sat (dUn f a e h) Q := .bind s
instance {f : D → Hh → Res D} : Red (Sat (dUn f a e h) Q) (Sat (a e h) fun x h1 => Sat (f x h1) Q) := ⟨Sat.un⟩
theorem Sat.anil (s : QA [] h) : Sat (aNil e h) QA := .ok s
instance  : Red (Sat (aNil e h) QA) (QA [] h) := ⟨Sat.anil⟩
theorem Sat.acons (s : Sat (a e h) fun x h1 => Sat (r e h1) fun xs h2 => QA (x :: xs) h2) : Sat (aCons a r e h) QA := .bind (s.mono fun _ _ s => .bind (s.mono fun _ _ q => .ok q))
instance  : Red (Sat (aCons a r e h) QA) (Sat (a e h) fun x h1 => Sat (r e h1) fun xs h2 => QA (x :: xs) h2) := ⟨Sat.acons⟩
theorem Sat.tup (s : Sat (r e h) fun xs h1 => szK xs (Q (.tup xs) h1)) : Sat (dTup r e h) Q := .bind (s.mono fun _ _ ⟨c, q⟩ => by
  rw [if_pos c]
  exact .ok q)
instance  : Red (Sat (dTup r e h) Q) (Sat (r e h) fun xs h1 => szK xs (Q (.tup xs) h1)) := ⟨Sat.tup⟩
theorem Sat.lst (s : Sat (r e h) fun xs h1 => szK xs (Q (.ref h1.length) (h1 ++ [.lst xs]))) : Sat (dLst r e h) Q := .bind (s.mono fun _ _ ⟨c, q⟩ => by
  rw [if_pos c]
  exact .ok q)
instance  : Red (Sat (dLst r e h) Q) (Sat (r e h) fun xs h1 => szK xs (Q (.ref h1.length) (h1 ++ [.lst xs]))) := ⟨Sat.lst⟩
theorem Sat.args {f : List D → Hh → Res D} (s : Sat (r e h) fun xs h1 => Sat (f xs h1) Q) : Sat (dArgs f r e h) Q := .bind s
instance {f : List D → Hh → Res D} : Red (Sat (dArgs f r e h) Q) (Sat (r e h) fun xs h1 => Sat (f xs h1) Q) := ⟨Sat.args⟩
theorem Sat.chain (s : Sat (a e h) fun x h1 => Sat (b e h1) fun y h2 => Sat (f x y h2) fun z h3 => blK z fun w => ifK w (Sat (c e h3) fun v h4 => Sat (g y v h4) Q) (Q (.bl false) h3)) : Sat (dChain f g a b c e h) Q := by
  refine .bind (s.mono fun x h1 s => .bind (s.mono fun y h2 s => .bind (s.mono fun z h3 ⟨w, ez, s⟩ => ?_)))
  subst ez
  cases w with
  | true => exact .bind s
  | false => exact .ok s
instance  : Red (Sat (dChain f g a b c e h) Q) (Sat (a e h) fun x h1 => Sat (b e h1) fun y h2 => Sat (f x y h2) fun z h3 => blK z fun w => ifK w (Sat (c e h3) fun v h4 => Sat (g y v h4) Q) (Q (.bl false) h3)) := ⟨Sat.chain⟩
theorem Sat.tV (s : Sat (a e h) fun x h1 => blK x fun b => QB b h1) : Sat (tV a e h) QB := .bind (s.mono fun x h1 ⟨b, ex, q⟩ => by
  subst ex
  exact .ok q)
instance  : Red (Sat (tV a e h) QB) (Sat (a e h) fun x h1 => blK x fun b => QB b h1) := ⟨Sat.tV⟩
theorem Sat.tT (s : Sat (a e h) fun x h1 => trK h1 x fun b => QB b h1) : Sat (tT a e h) QB := .bind (s.mono fun x h1 ⟨b, ex, q⟩ => by
  rw [ex]
  exact .ok q)
instance  : Red (Sat (tT a e h) QB) (Sat (a e h) fun x h1 => trK h1 x fun b => QB b h1) := ⟨Sat.tT⟩
theorem Sat.tAnd (s : Sat (t e h) fun x h1 => ifK x (Sat (u e h1) QB) (QB false h1)) : Sat (PI.tAnd t u e h) QB := .bind (s.mono fun x h1 q => by
  cases x with
  | true => exact q
  | false => exact .ok q)
instance  : Red (Sat (PI.tAnd t u e h) QB) (Sat (t e h) fun x h1 => ifK x (Sat (u e h1) QB) (QB false h1)) := ⟨Sat.tAnd⟩
theorem Sat.tOr (s : Sat (t e h) fun x h1 => ifK x (QB true h1) (Sat (u e h1) QB)) : Sat (PI.tOr t u e h) QB := .bind (s.mono fun x h1 q => by
  cases x with
  | true => exact .ok q
  | false => exact q)
instance  : Red (Sat (PI.tOr t u e h) QB) (Sat (t e h) fun x h1 => ifK x (QB true h1) (Sat (u e h1) QB)) := ⟨Sat.tOr⟩
theorem Sat.tNot (s : Sat (t e h) fun x h1 => QB (!x) h1) : Sat (PI.tNot t e h) QB := .bind (s.mono fun _ _ q => .ok q)
instance  : Red (Sat (PI.tNot t e h) QB) (Sat (t e h) fun x h1 => QB (!x) h1) := ⟨Sat.tNot⟩
theorem Sat.and (s : Sat (a e h) fun x h1 => trK h1 x fun w => ifK w (Sat (b e h1) Q) (Q x h1)) : Sat (dAnd a b e h) Q := .bind (s.mono fun x h1 ⟨w, ex, q⟩ => by
  rw [ex]
  cases w with
  | true => exact q
  | false => exact .ok q)
instance  : Red (Sat (dAnd a b e h) Q) (Sat (a e h) fun x h1 => trK h1 x fun w => ifK w (Sat (b e h1) Q) (Q x h1)) := ⟨Sat.and⟩
theorem Sat.or (s : Sat (a e h) fun x h1 => trK h1 x fun w => ifK w (Q x h1) (Sat (b e h1) Q)) : Sat (dOr a b e h) Q := .bind (s.mono fun x h1 ⟨w, ex, q⟩ => by
  rw [ex]
  cases w with
  | true => exact .ok q
  | false => exact q)
instance  : Red (Sat (dOr a b e h) Q) (Sat (a e h) fun x h1 => trK h1 x fun w => ifK w (Q x h1) (Sat (b e h1) Q)) := ⟨Sat.or⟩
theorem Sat.not (s : Sat (a e h) fun x h1 => trK h1 x fun w => Q (.bl (!w)) h1) : Sat (dNot a e h) Q := .bind (s.mono fun x h1 ⟨w, ex, q⟩ => by
  rw [ex]
  exact .ok q)
instance  : Red (Sat (dNot a e h) Q) (Sat (a e h) fun x h1 => trK h1 x fun w => Q (.bl (!w)) h1) := ⟨Sat.not⟩
theorem Sat.ife (s : Sat (t e h) fun x h1 => ifK x (Sat (a e h1) Q) (Sat (b e h1) Q)) : Sat (dIf t a b e h) Q := .bind (s.mono fun x h1 q => by
  cases x with
  | true => exact q
  | false => exact q)
instance  : Red (Sat (dIf t a b e h) Q) (Sat (t e h) fun x h1 => ifK x (Sat (a e h1) Q) (Sat (b e h1) Q)) := ⟨Sat.ife⟩
theorem Sat.sl {lo hi : ODen} (s : Sat (a e h) fun x h1 => Sat (lo e h1) fun l h2 => Sat (hi e h2) fun v h3 => Sat (oSl x l v h3) Q) : Sat (dSl a lo hi e h) Q := .bind (s.mono fun _ _ s => .bind (s.mono fun _ _ s => .bind s))
instance {lo hi : ODen} : Red (Sat (dSl a lo hi e h) Q) (Sat (a e h) fun x h1 => Sat (lo e h1) fun l h2 => Sat (hi e h2) fun v h3 => Sat (oSl x l v h3) Q) := ⟨Sat.sl⟩
theorem Sat.pnone {Q : Option Int → Hh → Prop} (s : Q none h) : Sat (pNone e h) Q := .ok s
instance {Q : Option Int → Hh → Prop} : Red (Sat (pNone e h) Q) (Q none h) := ⟨Sat.pnone⟩
theorem Sat.psome {Q : Option Int → Hh → Prop} (s : Sat (a e h) fun x h1 => intK x fun j => Q (some j) h1) : Sat (pSome a e h) Q := .bind (s.mono fun x h1 ⟨j, ex, q⟩ => by
  subst ex
  exact .ok q)
instance {Q : Option Int → Hh → Prop} : Red (Sat (pSome a e h) Q) (Sat (a e h) fun x h1 => intK x fun j => Q (some j) h1) := ⟨Sat.psome⟩
theorem Sat.isA {ty : Ty} (s : Sat (a e h) fun x h1 => isaK h1 ty x fun w => Q (.bl w) h1) : Sat (dIsA ty a e h) Q := .bind (s.mono fun x h1 ⟨w, ex, q⟩ => by
  rw [ex]
  exact .ok q)
instance {ty : Ty} : Red (Sat (dIsA ty a e h) Q) (Sat (a e h) fun x h1 => isaK h1 ty x fun w => Q (.bl w) h1) := ⟨Sat.isA⟩
theorem Sat.meth {f : D → List D → Hh → Res D} (s : Sat (a e h) fun x h1 => lsK h1 x (Sat (r e h1) fun xs h2 => Sat (f x xs h2) Q)) : Sat (dMeth f a r e h) Q := .bind (s.mono fun x h1 ⟨c, q⟩ => by
  rw [if_pos c]
  exact .bind q)
instance {f : D → List D → Hh → Res D} : Red (Sat (dMeth f a r e h) Q) (Sat (a e h) fun x h1 => lsK h1 x (Sat (r e h1) fun xs h2 => Sat (f x xs h2) Q)) := ⟨Sat.meth⟩
theorem Sat.callN {cl : Cal} {k np : Nat} (s : Sat (r e h) fun xs h1 => npK xs np (Sat (cl k xs h1) Q)) : Sat (dCallN cl k np r e h) Q := .bind (s.mono fun x h1 ⟨c, q⟩ => by
  rw [if_pos c]
  exact q)
instance {cl : Cal} {k np : Nat} : Red (Sat (dCallN cl k np r e h) Q) (Sat (r e h) fun xs h1 => npK xs np (Sat (cl k xs h1) Q)) := ⟨Sat.callN⟩
theorem Sat.call0 {cl : Cal} {k : Nat} (s : Sat (cl k [] h) Q) : Sat (dCall0 cl k e h) Q := by
  obtain ⟨d, h', q, p⟩ := s
  unfold dCall0
  rw [q]
  exact .ok p
instance {cl : Cal} {k : Nat} : Red (Sat (dCall0 cl k e h) Q) (Sat (cl k [] h) Q) := ⟨Sat.call0⟩
theorem Sat.lc (s : Sat (r e h) fun xs h1 => Q (.ref h1.length) (h1 ++ [.lst xs])) : Sat (dLc r e h) Q := .bind (s.mono fun _ _ q => .ok q)
instance  : Red (Sat (dLc r e h) Q) (Sat (r e h) fun xs h1 => Q (.ref h1.length) (h1 ++ [.lst xs])) := ⟨Sat.lc⟩
/-! ### operations -/
variable {x y : Int} {s1 s2 : List Nat} {xs ys : List D}
theorem Sat.addI (q : Q (.int (x + y)) h) : Sat (oAdd (.int x) (.int y) h) Q := .ok q
instance  : Red (Sat (oAdd (.int x) (.int y) h) Q) (Q (.int (x + y)) h) := ⟨Sat.addI⟩
theorem Sat.addS (c : s1.length + s2.length ≤ SL) (q : Q (.str (s1 ++ s2)) h) : Sat (oAdd (.str s1) (.str s2) h) Q := by
  simp only [oAdd, if_pos c]
  exact .ok q
theorem Sat.addT (c : xs.length + ys.length ≤ SL) (q : Q (.tup (xs ++ ys)) h) : Sat (oAdd (.tup xs) (.tup ys) h) Q := by
  simp only [oAdd, if_pos c]
  exact .ok q
theorem Sat.addL {m n : Nat} (e1 : h[m]? = some (.lst xs)) (e2 : h[n]? = some (.lst ys)) (c : xs.length + ys.length ≤ SL) (q : Q (.ref h.length) (h ++ [.lst (xs ++ ys)])) : Sat (oAdd (.ref m) (.ref n) h) Q := by
  simp only [oAdd, e1, e2, if_pos c]
  exact .ok q
theorem Sat.mulL {n : Nat} {k : Int} (e : h[n]? = some (.lst xs)) (c : -(2 ^ 63) ≤ k ∧ k < 2 ^ 63 ∧ xs.length * k.toNat ≤ SL) (q : Q (.ref h.length) (h ++ [.lst (List.replicate k.toNat xs).flatten])) : Sat (oMul (.ref n) (.int k) h) Q := by
  simp only [oMul, e, if_pos c]
  exact .ok q
theorem Sat.subI (q : Q (.int (x - y)) h) : Sat (oSub (.int x) (.int y) h) Q := .ok q
instance  : Red (Sat (oSub (.int x) (.int y) h) Q) (Q (.int (x - y)) h) := ⟨Sat.subI⟩
theorem Sat.mulI (c : mulOk x y) (q : Q (.int (x * y)) h) : Sat (oMul (.int x) (.int y) h) Q := by
  simp only [oMul, if_pos c]
  exact .ok q
theorem Sat.divI (c : divOk y) (q : Q (.int (x.fdiv y)) h) : Sat (oDiv (.int x) (.int y) h) Q := by
  simp only [oDiv, if_pos c]
  exact .ok q
theorem Sat.modI (c : y ≠ 0) (q : Q (.int (x.fmod y)) h) : Sat (oMod (.int x) (.int y) h) Q := by
  simp only [oMod, if_pos c]
  exact .ok q
theorem Sat.powI (c : 0 ≤ y ∧ y ≤ 1000000 ∧ x.natAbs < 2 ^ 64) (q : Q (.int (x ^ y.toNat)) h) : Sat (oPow (.int x) (.int y) h) Q := by
  simp only [oPow, if_pos c]
  exact .ok q
theorem Sat.neg (q : Q (.int (-x)) h) : Sat (oNeg (.int x) h) Q := .ok q
instance  : Red (Sat (oNeg (.int x) h) Q) (Q (.int (-x)) h) := ⟨Sat.neg⟩
theorem Sat.ltI (q : Q (.bl (decide (x < y))) h) : Sat (cLt (.int x) (.int y) h) Q := .ok q
instance  : Red (Sat (cLt (.int x) (.int y) h) Q) (Q (.bl (decide (x < y))) h) := ⟨Sat.ltI⟩
theorem Sat.leI (q : Q (.bl (decide (x ≤ y))) h) : Sat (cLe (.int x) (.int y) h) Q := .ok q
instance  : Red (Sat (cLe (.int x) (.int y) h) Q) (Q (.bl (decide (x ≤ y))) h) := ⟨Sat.leI⟩
theorem Sat.gtI (q : Q (.bl (decide (y < x))) h) : Sat (cGt (.int x) (.int y) h) Q := .ok q
instance  : Red (Sat (cGt (.int x) (.int y) h) Q) (Q (.bl (decide (y < x))) h) := ⟨Sat.gtI⟩
theorem Sat.geI (q : Q (.bl (decide (y ≤ x))) h) : Sat (cGe (.int x) (.int y) h) Q := .ok q
instance  : Red (Sat (cGe (.int x) (.int y) h) Q) (Q (.bl (decide (y ≤ x))) h) := ⟨Sat.geI⟩
theorem beq_dec {γ : Type} [BEq γ] [LawfulBEq γ] [DecidableEq γ] (a b : γ) : (a == b) = decide (a = b) := by
  by_cases e : a = b
  · rw [e, decide_eq_true rfl]
    exact beq_self_eq_true b
  · rw [decide_eq_false e]
    exact beq_eq_false_iff_ne.mpr e
theorem Sat.eqI (q : Q (.bl (decide (x = y))) h) : Sat (cEq (.int x) (.int y) h) Q := .of (a := .bl (x == y)) rfl (by rw [beq_dec]; exact q)
instance  : Red (Sat (cEq (.int x) (.int y) h) Q) (Q (.bl (decide (x = y))) h) := ⟨Sat.eqI⟩
theorem Sat.neI (q : Q (.bl (!decide (x = y))) h) : Sat (cNe (.int x) (.int y) h) Q := .of (a := .bl (!(x == y))) rfl (by rw [beq_dec]; exact q)
instance  : Red (Sat (cNe (.int x) (.int y) h) Q) (Q (.bl (!decide (x = y))) h) := ⟨Sat.neI⟩
theorem Sat.eqS (q : Q (.bl (decide (s1 = s2))) h) : Sat (cEq (.str s1) (.str s2) h) Q := .of (a := .bl (s1 == s2)) rfl (by rw [beq_dec]; exact q)
instance  : Red (Sat (cEq (.str s1) (.str s2) h) Q) (Q (.bl (decide (s1 = s2))) h) := ⟨Sat.eqS⟩
theorem Sat.neS (q : Q (.bl (!decide (s1 = s2))) h) : Sat (cNe (.str s1) (.str s2) h) Q := .of (a := .bl (!(s1 == s2))) rfl (by rw [beq_dec]; exact q)
instance  : Red (Sat (cNe (.str s1) (.str s2) h) Q) (Q (.bl (!decide (s1 = s2))) h) := ⟨Sat.neS⟩
theorem Sat.eqB {x y : Bool} (q : Q (.bl (decide (x = y))) h) : Sat (cEq (.bl x) (.bl y) h) Q := .of (a := .bl (x == y)) rfl (by rw [beq_dec]; exact q)
instance {x y : Bool} : Red (Sat (cEq (.bl x) (.bl y) h) Q) (Q (.bl (decide (x = y))) h) := ⟨Sat.eqB⟩
theorem Sat.neB {x y : Bool} (q : Q (.bl (!decide (x = y))) h) : Sat (cNe (.bl x) (.bl y) h) Q := .of (a := .bl (!(x == y))) rfl (by rw [beq_dec]; exact q)
instance {x y : Bool} : Red (Sat (cNe (.bl x) (.bl y) h) Q) (Q (.bl (!decide (x = y))) h) := ⟨Sat.neB⟩
theorem eqR_tup (cx : (D.tup xs).fit = true) (cy : (D.tup ys).fit = true) : eqR h (.tup xs) (.tup ys) = some (D.eqvL xs ys) := by
  have e1 : D.scal2 (.tup xs) (.tup ys) = false := rfl
  simp only [eqR, e1, listOf, cx, cy, D.eqv]
  rfl
theorem Sat.eqT (cx : (D.tup xs).fit = true) (cy : (D.tup ys).fit = true) (q : Q (.bl (D.eqvL xs ys)) h) : Sat (cEq (.tup xs) (.tup ys) h) Q := by
  simp only [cEq, eqR_tup cx cy]
  exact .ok q
theorem Sat.neT (cx : (D.tup xs).fit = true) (cy : (D.tup ys).fit = true) (q : Q (.bl (!D.eqvL xs ys)) h) : Sat (cNe (.tup xs) (.tup ys) h) Q := by
  simp only [cNe, eqR_tup cx cy]
  exact .ok q
theorem Sat.ixT {x : Int} {z : D} (c : atIx xs x = some z) (q : Q z h) : Sat (oIx (.tup xs) (.int x) h) Q := by
  simp only [oIx, c]
  exact .ok q
theorem Sat.ixL {x : Int} {z : D} {n : Nat} (e : h[n]? = some (.lst xs)) (c : atIx xs x = some z) (q : Q z h) : Sat (oIx (.ref n) (.int x) h) Q := by
  simp only [oIx, listOf, lstAt, e, c]
  exact .ok q
theorem Sat.lenT (q : Q (.int xs.length) h) : Sat (bLen [.tup xs] h) Q := .ok q
instance  : Red (Sat (bLen [.tup xs] h) Q) (Q (.int xs.length) h) := ⟨Sat.lenT⟩
theorem Sat.lenL {n : Nat} (e : h[n]? = some (.lst xs)) (q : Q (.int xs.length) h) : Sat (bLen [.ref n] h) Q := by
  simp only [bLen, e]
  exact .ok q
theorem Sat.lenS (c : s1.length ≤ SL) (q : Q (.int s1.length) h) : Sat (bLen [.str s1] h) Q := by
  simp only [bLen, if_pos c]
  exact .ok q
theorem Sat.intI (q : Q (.int x) h) : Sat (bInt [.int x] h) Q := .ok q
instance  : Red (Sat (bInt [.int x] h) Q) (Q (.int x) h) := ⟨Sat.intI⟩
theorem Sat.intB {b : Bool} (q : Q (.int (if b then 1 else 0)) h) : Sat (bInt [.bl b] h) Q := .ok q
instance {b : Bool} : Red (Sat (bInt [.bl b] h) Q) (Q (.int (if b then 1 else 0)) h) := ⟨Sat.intB⟩
theorem Sat.absI (q : Q (.int (if x < 0 then -x else x)) h) : Sat (bAbs [.int x] h) Q := .ok q
instance  : Red (Sat (bAbs [.int x] h) Q) (Q (.int (if x < 0 then -x else x)) h) := ⟨Sat.absI⟩
theorem Sat.isN {z : D} {w : Bool} (c : isN z = some w) (q : Q (.bl w) h) : Sat (cIsN z h) Q := by
  simp only [cIsN, c]
  exact .ok q
theorem Sat.notN {z : D} {w : Bool} (c : PI.isN z = some w) (q : Q (.bl (!w)) h) : Sat (cNotN z h) Q := by
  simp only [cNotN, c]
  exact .ok q
theorem Sat.append {n : Nat} {z : D} (e : h[n]? = some (.lst xs)) (c : xs.length < SL) (q : Q .non (h.set n (.lst (xs ++ [z])))) : Sat (mAppend (.ref n) [z] h) Q := by
  simp only [mAppend, e, if_pos c]
  exact .ok q
theorem Sat.extend {m n : Nat} (e : h[n]? = some (.lst xs)) (e2 : h[m]? = some (.lst ys)) (c : xs.length + ys.length ≤ SL) (q : Q .non (h.set n (.lst (xs ++ ys)))) : Sat (mExtend (.ref n) [.ref m] h) Q := by
  simp only [mExtend, e, e2, if_pos c]
  exact .ok q
theorem Sat.extL {n : Nat} (e : h[n]? = some (.lst xs)) (c : xs.length + ys.length ≤ SL) (q : Q .non (h.set n (.lst (xs ++ ys)))) : Sat (mExtL (.ref n) ys h) Q := by
  simp only [mExtL, e, if_pos c]
  exact .ok q
theorem Sat.pop {n : Nat} {z : D} (e : h[n]? = some (.lst (xs ++ [z]))) (q : Q z (h.set n (.lst xs))) : Sat (mPop (.ref n) [] h) Q := by
  simp only [mPop, e, List.getLast?_append, List.dropLast_concat]
  exact .ok q
theorem isLst_ref {n : Nat} (e : h[n]? = some (.lst xs)) : isLst h (.ref n) = true := by
  simp only [isLst, listOf, lstAt, e]
  rfl
theorem Sat.tupT (q : Q (.tup xs) h) : Sat (bTuple [.tup xs] h) Q := .ok q
instance  : Red (Sat (bTuple [.tup xs] h) Q) (Q (.tup xs) h) := ⟨Sat.tupT⟩
theorem Sat.tupL {n : Nat} (e : h[n]? = some (.lst xs)) (q : Q (.tup xs) h) : Sat (bTuple [.ref n] h) Q := by
  simp only [bTuple, listOf, lstAt, e]
  exact .ok q
theorem Sat.lstT (q : Q (.ref h.length) (h ++ [.lst xs])) : Sat (bList [.tup xs] h) Q := .ok q
instance  : Red (Sat (bList [.tup xs] h) Q) (Q (.ref h.length) (h ++ [.lst xs])) := ⟨Sat.lstT⟩
theorem Sat.lstR (q : Q (.ref h.length) (h ++ [.lst xs])) : Sat (bList [.rl xs] h) Q := .ok q
instance  : Red (Sat (bList [.rl xs] h) Q) (Q (.ref h.length) (h ++ [.lst xs])) := ⟨Sat.lstR⟩
theorem Sat.lstL {n : Nat} (e : h[n]? = some (.lst xs)) (q : Q (.ref h.length) (h ++ [.lst xs])) : Sat (bList [.ref n] h) Q := by
  simp only [bList, listOf, lstAt, e]
  exact .ok q
theorem Sat.fTup (q : Q (.tup xs) h) : Sat (PI.fTup xs h) Q := .ok q
instance  : Red (Sat (PI.fTup xs h) Q) (Q (.tup xs) h) := ⟨Sat.fTup⟩
theorem Sat.fAll {bs : List Bool} (e : blsOf xs = some bs) (q : Q (.bl (bs.all id)) h) : Sat (PI.fAll xs h) Q := by
  simp only [PI.fAll, e]
  exact .ok q
theorem Sat.fAny {bs : List Bool} (e : blsOf xs = some bs) (q : Q (.bl (bs.any id)) h) : Sat (PI.fAny xs h) Q := by
  simp only [PI.fAny, e]
  exact .ok q
theorem Sat.fSum {is : List Int} (e : intsOf xs = some is) (q : Q (.int is.sum) h) : Sat (PI.fSum xs h) Q := by
  simp only [PI.fSum, e]
  exact .ok q
theorem Sat.slT {lo hi : Option Int} (q : Q (.tup (cut xs lo hi)) h) : Sat (oSl (.tup xs) lo hi h) Q := .ok q
instance {lo hi : Option Int} : Red (Sat (oSl (.tup xs) lo hi h) Q) (Q (.tup (cut xs lo hi)) h) := ⟨Sat.slT⟩
theorem Sat.slL {lo hi : Option Int} {n : Nat} (e : h[n]? = some (.lst xs)) (q : Q (.ref h.length) (h ++ [.lst (cut xs lo hi)])) : Sat (oSl (.ref n) lo hi h) Q := by
  simp only [oSl, listOf, lstAt, e]
  exact .ok q
theorem Sat.slR {lo hi : Option Int} (q : Q (.ref h.length) (h ++ [.lst (cut xs lo hi)])) : Sat (oSl (.rl xs) lo hi h) Q := .ok q
instance {lo hi : Option Int} : Red (Sat (oSl (.rl xs) lo hi h) Q) (Q (.ref h.length) (h ++ [.lst (cut xs lo hi)])) := ⟨Sat.slR⟩
/-! ### walks -/
theorem Sat.wTup (s : Sat (a e h) fun x h1 => tupK x fun xs => QW (.its xs) h1) : Sat (wSeq a e h) QW := .bind (s.mono fun x h1 ⟨xs, ex, q⟩ => by
  subst ex
  exact .ok q)
theorem Sat.wLst (s : Sat (a e h) fun x h1 => ∃ n xs, x = .ref n ∧ h1[n]? = some (.lst xs) ∧ QW (.lst n xs) h1) : Sat (wSeq a e h) QW := .bind (s.mono fun x h1 ⟨n, xs, ex, c, q⟩ => by
  subst ex
  simp only [lstAt, c]
  exact .ok q)
theorem Sat.wRl (s : Sat (a e h) fun x h1 => ∃ xs, x = .rl xs ∧ QW (.its xs) h1) : Sat (wSeq a e h) QW := .bind (s.mono fun x h1 ⟨xs, ex, q⟩ => by
  subst ex
  exact .ok q)
theorem Sat.wRng1 (s : Sat (a e h) fun x h1 => intK x fun j => lineI j ∧ QW (.rng 0 j.toNat) h1) : Sat (PI.wRng1 a e h) QW := .bind (s.mono fun x h1 ⟨j, ex, c, q⟩ => by
  subst ex
  simp only [if_pos c]
  exact .ok q)
instance  : Red (Sat (PI.wRng1 a e h) QW) (Sat (a e h) fun x h1 => intK x fun j => lineI j ∧ QW (.rng 0 j.toNat) h1) := ⟨Sat.wRng1⟩
theorem Sat.wRng2 (s : Sat (a e h) fun x h1 => Sat (b e h1) fun y h2 => intK x fun i => intK y fun j => (lineI i ∧ lineI j) ∧ QW (.rng i (j - i).toNat) h2) : Sat (PI.wRng2 a b e h) QW := .bind (s.mono fun x h1 s => .bind (s.mono fun y h2 ⟨i, ex, j, ey, c, q⟩ => by
  subst ex ey
  simp only [if_pos c]
  exact .ok q))
instance  : Red (Sat (PI.wRng2 a b e h) QW) (Sat (a e h) fun x h1 => Sat (b e h1) fun y h2 => intK x fun i => intK y fun j => (lineI i ∧ lineI j) ∧ QW (.rng i (j - i).toNat) h2) := ⟨Sat.wRng2⟩
theorem Sat.wRevT (s : Sat (a e h) fun x h1 => tupK x fun xs => QW (.its xs.reverse) h1) : Sat (wRev a e h) QW := .bind (s.mono fun x h1 ⟨xs, ex, q⟩ => by
  subst ex
  exact .ok q)
/-! ### targets -/
theorem Sat.gNm (s : QE (e.set i (some d)) h) : Sat (PI.gNm i d e h) QE := .ok s
instance  : Red (Sat (PI.gNm i d e h) QE) (QE (e.set i (some d)) h) := ⟨Sat.gNm⟩
theorem Sat.gsNil (s : QE e h) : Sat (PI.gsNil [] e h) QE := .ok s
instance  : Red (Sat (PI.gsNil [] e h) QE) (QE e h) := ⟨Sat.gsNil⟩
theorem Sat.gsCons {g : GDen} {r : GsDen} (s : Sat (g d e h) fun e1 h1 => Sat (r ds e1 h1) QE) : Sat (PI.gsCons g r (d :: ds) e h) QE := .bind s
instance {g : GDen} {r : GsDen} : Red (Sat (PI.gsCons g r (d :: ds) e h) QE) (Sat (g d e h) fun e1 h1 => Sat (r ds e1 h1) QE) := ⟨Sat.gsCons⟩
theorem Sat.gTp {n : Nat} {g : GsDen} (c : ds.length = n) (s : Sat (g ds e h) QE) : Sat (PI.gTp n g (.tup ds) e h) QE := by
  simp only [PI.gTp, if_pos c]
  exact s
theorem Sat.gSb (s : Sat (a e h) fun x h1 => Sat (b e h1) fun y h2 => Sat (setAt x y d h2) fun _ h3 => QE e h3) : Sat (PI.gSb a b d e h) QE := .bind (s.mono fun _ _ s => .bind (s.mono fun _ _ s => .bind (s.mono fun _ _ q => .ok q)))
instance  : Red (Sat (PI.gSb a b d e h) QE) (Sat (a e h) fun x h1 => Sat (b e h1) fun y h2 => Sat (setAt x y d h2) fun _ h3 => QE e h3) := ⟨Sat.gSb⟩
theorem Sat.setL {n j : Nat} {k : Int} {z : D} (e1 : h[n]? = some (.lst xs)) (c : ixOf xs.length k = some j) (q : Q .non (h.set n (.lst (xs.set j z)))) : Sat (setAt (.ref n) (.int k) z h) Q := by
  simp only [setAt, e1, c]
  exact .ok q
/-! ### statements -/
def seqK (b : SDen) (Q : Fl → Hh → Prop) : Fl → Hh → Prop
  | .nx e, h => Sat (b e h) Q
  | f, h => Q f h
theorem Sat.seq {a b : SDen} (s : Sat (a e h) (seqK b QF)) : Sat (sSeq a b e h) QF := .bind (s.mono fun f h1 q => by
  cases f with
  | nx e1 => exact q
  | rt d => exact .ok q
  | bk e1 => exact .ok q
  | ct e1 => exact .ok q
  | xc c fs e1 => exact .ok q)
instance {a b : SDen} : Red (Sat (sSeq a b e h) QF) (Sat (a e h) (seqK b QF)) := ⟨Sat.seq⟩
theorem seqK.nx {b : SDen} (s : Sat (b e h) QF) : seqK b QF (.nx e) h := s
instance {b : SDen} : Red (seqK b QF (.nx e) h) (Sat (b e h) QF) := ⟨seqK.nx⟩
theorem seqK.rt {b : SDen} (s : QF (.rt d) h) : seqK b QF (.rt d) h := s
instance {b : SDen} : Red (seqK b QF (.rt d) h) (QF (.rt d) h) := ⟨seqK.rt⟩
theorem seqK.bk {b : SDen} (s : QF (.bk e) h) : seqK b QF (.bk e) h := s
instance {b : SDen} : Red (seqK b QF (.bk e) h) (QF (.bk e) h) := ⟨seqK.bk⟩
theorem seqK.ct {b : SDen} (s : QF (.ct e) h) : seqK b QF (.ct e) h := s
instance {b : SDen} : Red (seqK b QF (.ct e) h) (QF (.ct e) h) := ⟨seqK.ct⟩
theorem Sat.nil (s : QF (.nx e) h) : Sat (sNil e h) QF := .ok s
instance  : Red (Sat (sNil e h) QF) (QF (.nx e) h) := ⟨Sat.nil⟩
theorem Sat.expr (s : Sat (a e h) fun _ h1 => QF (.nx e) h1) : Sat (sExpr a e h) QF := .sb (s.mono fun _ _ q => .ok q)
instance  : Red (Sat (sExpr a e h) QF) (Sat (a e h) fun _ h1 => QF (.nx e) h1) := ⟨Sat.expr⟩
theorem Sat.ret (s : Sat (a e h) fun x h1 => QF (.rt x) h1) : Sat (sRet a e h) QF := .sb (s.mono fun _ _ q => .ok q)
instance  : Red (Sat (sRet a e h) QF) (Sat (a e h) fun x h1 => QF (.rt x) h1) := ⟨Sat.ret⟩
theorem Sat.retN (s : QF (.rt .non) h) : Sat (sRetN e h) QF := .ok s
instance  : Red (Sat (sRetN e h) QF) (QF (.rt .non) h) := ⟨Sat.retN⟩
theorem Sat.brk (s : QF (.bk e) h) : Sat (sBreak e h) QF := .ok s
instance  : Red (Sat (sBreak e h) QF) (QF (.bk e) h) := ⟨Sat.brk⟩
theorem Sat.cont (s : QF (.ct e) h) : Sat (sCont e h) QF := .ok s
instance  : Red (Sat (sCont e h) QF) (QF (.ct e) h) := ⟨Sat.cont⟩
theorem Sat.asg {g : GDen} (s : Sat (a e h) fun x h1 => Sat (g x e h1) fun e1 h2 => QF (.nx e1) h2) : Sat (sAsg a g e h) QF := .sb (s.mono fun _ _ s => .sb (s.mono fun _ _ q => .ok q))
instance {g : GDen} : Red (Sat (sAsg a g e h) QF) (Sat (a e h) fun x h1 => Sat (g x e h1) fun e1 h2 => QF (.nx e1) h2) := ⟨Sat.asg⟩
theorem Sat.par {j : Nat} (s : Sat (a e h) fun x h1 => Sat (b e h1) fun y h2 => QF (.nx ((e.set i (some x)).set j (some y))) h2) : Sat (sPar i j a b e h) QF := .sb (s.mono fun _ _ s => .sb (s.mono fun _ _ q => .ok q))
instance {j : Nat} : Red (Sat (sPar i j a b e h) QF) (Sat (a e h) fun x h1 => Sat (b e h1) fun y h2 => QF (.nx ((e.set i (some x)).set j (some y))) h2) := ⟨Sat.par⟩
theorem Sat.aug (q : e[i]? = some (some d)) (s : Sat (a e h) fun y h1 => Sat (f d y h1) fun z h2 => QF (.nx (e.set i (some z))) h2) : Sat (sAug i f a e h) QF := by
  unfold sAug
  rw [q]
  exact .sb (s.mono fun _ _ s => .sb (s.mono fun _ _ q => .ok q))
theorem Sat.sif {a b : SDen} (s : Sat (t e h) fun x h1 => ifK x (Sat (a e h1) QF) (Sat (b e h1) QF)) : Sat (sIf t a b e h) QF := .sb (s.mono fun x h1 q => by
  cases x with
  | true => exact q
  | false => exact q)
instance {a b : SDen} : Red (Sat (sIf t a b e h) QF) (Sat (t e h) fun x h1 => ifK x (Sat (a e h1) QF) (Sat (b e h1) QF)) := ⟨Sat.sif⟩
theorem Sat.sfor {w : WDen} {g : GDen} {b : SDen} (s : Sat (w e h) fun k h1 => Sat (forGo k g b k.items e h1) QF) : Sat (sFor w g b e h) QF := .sb s
instance {w : WDen} {g : GDen} {b : SDen} : Red (Sat (sFor w g b e h) QF) (Sat (w e h) fun k h1 => Sat (forGo k g b k.items e h1) QF) := ⟨Sat.sfor⟩
/-- a for by its state: P holds behind each number of turns -/
theorem Sat.forGo {k : Wk} {g : GDen} {b : SDen} {its : List D} (P : List D → En → Hh → Prop) (h0 : P its e h) (still : ∀ ds e h, P ds e h → k.still h = true)
    (step : ∀ d ds e h, P (d :: ds) e h → Sat (g d e h) fun e1 h1 => Sat (b e1 h1) fun f h2 => match f with
      | .nx e2 => P ds e2 h2
      | .ct e2 => P ds e2 h2
      | .bk e2 => QF (.nx e2) h2
      | f => QF f h2) (fin : ∀ e h, P [] e h → QF (.nx e) h) : Sat (PI.forGo k g b its e h) QF := by
  induction its generalizing e h with
  | nil =>
    simp only [PI.forGo, still _ _ _ h0, if_true]
    exact .ok (fin _ _ h0)
  | cons d ds ih =>
    simp only [PI.forGo, still _ _ _ h0, if_true]
    refine .sb ((step d ds e h h0).mono fun e1 h1 s => .bind (s.mono fun f h2 q => ?_))
    cases f with
    | nx e2 => exact ih q
    | ct e2 => exact ih q
    | bk e2 => exact .ok q
    | rt d => exact .ok q
    | xc c fs e2 => exact .ok q
theorem Sat.whl {b : SDen} (s : Sat (whGo t b WF e h) QF) : Sat (sWhile t b e h) QF := s
instance {b : SDen} : Red (Sat (sWhile t b e h) QF) (Sat (whGo t b WF e h) QF) := ⟨Sat.whl⟩
/-- a while by its state and a measure -/
theorem Sat.whGo {b : SDen} (P : Nat → En → Hh → Prop) (m : Nat) (h0 : P m e h) 
    (step : ∀ m e h, P m e h → Sat (t e h) fun x h1 => ifK x (Sat (b e h1) fun f h2 => match f with
      | .nx e2 => ∃ m', m' < m ∧ P m' e2 h2
      | .ct e2 => ∃ m', m' < m ∧ P m' e2 h2
      | .bk e2 => QF (.nx e2) h2
      | f => QF f h2) (QF (.nx e) h1)) {n : Nat} (hm : m < n) : Sat (PI.whGo t b n e h) QF := by
  induction n generalizing m e h with
  | zero => omega
  | succ n ih =>
    unfold PI.whGo
    refine .sb ((step m e h h0).mono fun x h1 s => ?_)
    cases x with
    | false => exact .ok s
    | true =>
      have s : Sat (b e h1) _ := s
      refine .bind (s.mono fun f h2 q => ?_)
      cases f with
      | nx e2 => obtain ⟨m', hl, p⟩ := q; exact ih m' p (by omega)
      | ct e2 => obtain ⟨m', hl, p⟩ := q; exact ih m' p (by omega)
      | bk e2 => exact .ok q
      | rt d => exact .ok q
      | xc c fs e2 => exact .ok q
/-! ### comprehensions -/
theorem Sat.comp {w : WDen} {vs : List Nat} {g : GDen} (s : Sat (w e h) fun k h1 => Sat (compGo k vs g t a e k.items [] h1) QA) : Sat (aComp w vs g t a e h) QA := .bind s
instance {w : WDen} {vs : List Nat} {g : GDen} : Red (Sat (aComp w vs g t a e h) QA) (Sat (w e h) fun k h1 => Sat (compGo k vs g t a e k.items [] h1) QA) := ⟨Sat.comp⟩
/-- P: what is left, what is made -/
theorem Sat.compGo {k : Wk} {vs : List Nat} {g : GDen} {its acc : List D} (P : List D → List D → Hh → Prop) (h0 : P its acc h) (still : ∀ ds acc h, P ds acc h → k.still h = true)
    (step : ∀ d ds acc h, P (d :: ds) acc h → Sat (g d (forget e vs) h) fun e1 h1 => Sat (t e1 h1) fun b h2 => ifK b (Sat (a e1 h2) fun x h3 => acc.length < SL ∧ P ds (acc ++ [x]) h3) (P ds acc h2))
    (fin : ∀ acc h, P [] acc h → QA acc h) : Sat (PI.compGo k vs g t a e its acc h) QA := by
  induction its generalizing acc h with
  | nil =>
    simp only [PI.compGo, still _ _ _ h0, if_true]
    exact .ok (fin _ _ h0)
  | cons d ds ih =>
    simp only [PI.compGo, still _ _ _ h0, if_true]
    refine .bn ((step d ds acc h h0).mono fun e1 h1 s => .bn (s.mono fun b h2 q => ?_))
    cases b with
    | true =>
      have q : Sat (a e1 h2) _ := q
      exact .bn (q.mono fun x h3 ⟨c, q⟩ => by rw [if_pos c]; exact ih q)
    | false => exact ih q
/-- the same, by the turn's number -/
theorem Sat.forIx {k : Wk} {g : GDen} {b : SDen} {its : List D} (P : Nat → En → Hh → Prop) (h0 : P 0 e h) (still : ∀ i e h, P i e h → k.still h = true)
    (step : ∀ i d e h, its[i]? = some d → P i e h → Sat (g d e h) fun e1 h1 => Sat (b e1 h1) fun f h2 => match f with
      | .nx e2 => P (i + 1) e2 h2
      | .ct e2 => P (i + 1) e2 h2
      | .bk e2 => QF (.nx e2) h2
      | f => QF f h2) (fin : ∀ e h, P its.length e h → QF (.nx e) h) : Sat (PI.forGo k g b its e h) QF := by
  refine Sat.forGo (fun ds e h => ∃ i, ds = its.drop i ∧ i ≤ its.length ∧ P i e h) ⟨0, by simp, by omega, h0⟩ (fun ds e h ⟨i, _, _, p⟩ => still i e h p) (fun d ds e h ⟨i, hd, hi, p⟩ => ?_) fun e h ⟨i, hd, hi, p⟩ => ?_
  · have hlt : i < its.length := by
      rcases Nat.lt_or_ge i its.length with c | c
      · exact c
      · rw [List.drop_eq_nil_of_le c] at hd
        cases hd
    rw [List.drop_eq_getElem_cons hlt] at hd
    obtain ⟨rfl, rfl⟩ := List.cons.inj hd
    refine (step i _ e h (List.getElem?_eq_getElem hlt) p).mono fun e1 h1 s => s.mono fun f h2 q => ?_
    cases f with
    | nx e2 => exact ⟨i + 1, rfl, hlt, q⟩
    | ct e2 => exact ⟨i + 1, rfl, hlt, q⟩
    | bk e2 => exact q
    | rt d => exact q
    | xc c fs e2 => exact q
  · have c : its.length ≤ i := by
      rcases Nat.lt_or_ge i its.length with c | c
      · rw [List.drop_eq_getElem_cons c] at hd
        cases hd
      · exact c
    have ei : i = its.length := by omega
    subst ei
    exact fin e h p
theorem Sat.compIx {k : Wk} {vs : List Nat} {g : GDen} {its : List D} (P : Nat → List D → Hh → Prop) (h0 : P 0 [] h) (still : ∀ i acc h, P i acc h → k.still h = true)
    (step : ∀ i d acc h, its[i]? = some d → P i acc h → Sat (g d (forget e vs) h) fun e1 h1 => Sat (t e1 h1) fun b h2 => ifK b (Sat (a e1 h2) fun x h3 => acc.length < SL ∧ P (i + 1) (acc ++ [x]) h3) (P (i + 1) acc h2))
    (fin : ∀ acc h, P its.length acc h → QA acc h) : Sat (PI.compGo k vs g t a e its [] h) QA := by
  refine Sat.compGo (fun ds acc h => ∃ i, ds = its.drop i ∧ i ≤ its.length ∧ P i acc h) ⟨0, by simp, by omega, h0⟩ (fun ds acc h ⟨i, _, _, p⟩ => still i acc h p) (fun d ds acc h ⟨i, hd, hi, p⟩ => ?_) fun acc h ⟨i, hd, hi, p⟩ => ?_
  · have hlt : i < its.length := by
      rcases Nat.lt_or_ge i its.length with c | c
      · exact c
      · rw [List.drop_eq_nil_of_le c] at hd
        cases hd
    rw [List.drop_eq_getElem_cons hlt] at hd
    obtain ⟨rfl, rfl⟩ := List.cons.inj hd
    refine (step i _ acc h (List.getElem?_eq_getElem hlt) p).mono fun e1 h1 s => s.mono fun b h2 q => ?_
    cases b with
    | true => exact ifK.t rfl (Sat.mono (show Sat (a e1 h2) _ from q) fun x h3 ⟨c, q⟩ => ⟨c, i + 1, rfl, hlt, q⟩)
    | false => exact ifK.f rfl ⟨i + 1, rfl, hlt, q⟩
  · have c : its.length ≤ i := by
      rcases Nat.lt_or_ge i its.length with c | c
      · rw [List.drop_eq_getElem_cons c] at hd
        cases hd
      · exact c
    have ei : i = its.length := by omega
    subst ei
    exact fin acc h p
theorem rng_len {lo : Int} {n : Nat} : (Wk.items (.rng lo n)).length = n := by simp [Wk.items]
theorem rng_at {lo : Int} {n i : Nat} {d : D} (e : (Wk.items (.rng lo n))[i]? = some d) : i < n ∧ d = .int (lo + i) := by
  have hi := (List.getElem?_eq_some_iff.mp e).1
  rw [rng_len] at hi
  simp only [Wk.items] at e
  rw [List.getElem?_map, List.getElem?_range hi] at e
  exact ⟨hi, (Option.some.inj e).symm⟩
theorem Sat.tYes (s : QB true h) : Sat (PI.tYes e h) QB := .ok s
instance  : Red (Sat (PI.tYes e h) QB) (QB true h) := ⟨Sat.tYes⟩
/-! ### a def -/
def retK (Q : D → Hh → Prop) : Fl → Hh → Prop
  | .rt d, h => Q d h
  | .nx _, h => Q .non h
  | _, _ => False
theorem retK.rt (s : Q d h) : retK Q (.rt d) h := s
instance  : Red (retK Q (.rt d) h) (Q d h) := ⟨retK.rt⟩
theorem retK.nx (s : Q .non h) : retK Q (.nx e) h := s
instance  : Red (retK Q (.nx e) h) (Q .non h) := ⟨retK.nx⟩
theorem Sat.body {n ps : Nat} {b : SDen} (c : ds.length = ps) (s : Sat (b (ds.map some ++ List.replicate (n - ps) none) h) (retK Q)) : Sat (runBody n b ps ds h) Q := by
  unfold runBody
  rw [if_pos c]
  refine .bn (s.mono fun f h1 q => ?_)
  cases f with
  | rt d => exact .ok q
  | nx e => exact .ok q
  | bk e => exact q.elim
  | ct e => exact q.elim
  | xc c fs e => exact q.elim
end
/-! ### heaps -/
/-- all that was is as it was -/
def Ext (h h' : Hh) : Prop := h.length ≤ h'.length ∧ ∀ i, i < h.length → h'[i]? = h[i]?
theorem Ext.refl (h : Hh) : Ext h h := ⟨Nat.le_refl _, fun _ _ => rfl⟩
theorem Ext.trans {h h1 h2 : Hh} (a : Ext h h1) (b : Ext h1 h2) : Ext h h2 := ⟨Nat.le_trans a.1 b.1, fun i hi => (b.2 i (Nat.lt_of_lt_of_le hi a.1)).trans (a.2 i hi)⟩
theorem Ext.push {h : Hh} {o : Ob} : Ext h (h ++ [o]) := ⟨by simp, fun i hi => List.getElem?_append_left hi⟩
theorem Ext.set {h h' : Hh} {n : Nat} {o : Ob} (a : Ext h h') (hn : h.length ≤ n) : Ext h (h'.set n o) := ⟨by simpa using a.1, fun i hi => by
  rw [List.getElem?_set_ne (by omega)]
  exact a.2 i hi⟩
theorem Ext.at {h h' : Hh} {n : Nat} {o : Ob} (a : Ext h h') (e : h[n]? = some o) : h'[n]? = some o := by
  rw [a.2 n (List.getElem?_eq_some_iff.mp e).1]
  exact e
theorem at_push {h : Hh} {o : Ob} : (h ++ [o])[h.length]? = some o := by simp
theorem at_set {h : Hh} {n : Nat} {o u : Ob} (e : h[n]? = some u) : (h.set n o)[n]? = some o := List.getElem?_set_self (List.getElem?_eq_some_iff.mp e).1
theorem lt_of_at {h : Hh} {n : Nat} {o : Ob} (e : h[n]? = some o) : n < h.length := (List.getElem?_eq_some_iff.mp e).1
/-- all but n is as it was -/
def But (n : Nat) (h h' : Hh) : Prop := h.length ≤ h'.length ∧ ∀ i, i < h.length → i ≠ n → h'[i]? = h[i]?
theorem But.refl (n : Nat) (h : Hh) : But n h h := ⟨Nat.le_refl _, fun _ _ _ => rfl⟩
theorem But.trans {n : Nat} {h h1 h2 : Hh} (a : But n h h1) (b : But n h1 h2) : But n h h2 := ⟨Nat.le_trans a.1 b.1, fun i hi hn => (b.2 i (Nat.lt_of_lt_of_le hi a.1) hn).trans (a.2 i hi hn)⟩
theorem But.at {n m : Nat} {h h' : Hh} {o : Ob} (a : But n h h') (hm : m ≠ n) (e : h[m]? = some o) : h'[m]? = some o := by
  rw [a.2 m (List.getElem?_eq_some_iff.mp e).1 hm]
  exact e
theorem Ext.but {h h' : Hh} (n : Nat) (a : Ext h h') : But n h h' := ⟨a.1, fun i hi _ => a.2 i hi⟩
theorem But.set {n : Nat} {h h' : Hh} {o : Ob} (a : But n h h') : But n h (h'.set n o) := ⟨by simpa using a.1, fun i hi hn => by
  rw [List.getElem?_set_ne (by omega)]
  exact a.2 i hi hn⟩
theorem But.set2 {n m : Nat} {h h' : Hh} {o : Ob} (a : But n h h') (hm : h.length ≤ m) : But n h (h'.set m o) := ⟨by simpa using a.1, fun i hi hn => by
  rw [List.getElem?_set_ne (by omega)]
  exact a.2 i hi hn⟩
/-- what lies at indices of lists -/
theorem atIx_nat {γ : Type} {xs : List γ} {i : Nat} {x : γ} (e : xs[i]? = some x) : atIx xs (i : Int) = some x := by
  have hi := (List.getElem?_eq_some_iff.mp e).1
  have c1 : (0 : Int) ≤ (i : Int) := by omega
  have c2 : (i : Int) < (xs.length : Int) := by omega
  simp only [atIx, ixOf, if_pos c1, if_pos c2, Option.bind, Int.toNat_natCast]
  exact e
theorem atIx_int {γ : Type} {xs : List γ} {i : Int} (h0 : 0 ≤ i) (h1 : i < xs.length) : ∃ x, atIx xs i = some x ∧ xs[i.toNat]? = some x := by
  have e : xs[i.toNat]? = some (xs[i.toNat]'(by omega)) := List.getElem?_eq_getElem _
  refine ⟨_, ?_, e⟩
  have q := atIx_nat e
  rw [Int.toNat_of_nonneg h0] at q
  exact q
section
variable {Q : D → Hh → Prop} {h : Hh} {xs : List D} {d : Int} {n : Nat}
theorem Sat.ixT' (h0 : 0 ≤ d) (h1 : d < xs.length) (q : ∀ x, x ∈ xs → Q x h) : Sat (oIx (.tup xs) (.int d) h) Q := by
  obtain ⟨x, e1, e2⟩ := atIx_int h0 h1
  exact Sat.ixT e1 (q x (List.mem_of_getElem? e2))
theorem Sat.ixL' (e : h[n]? = some (.lst xs)) (h0 : 0 ≤ d) (h1 : d < xs.length) (q : ∀ x, x ∈ xs → Q x h) : Sat (oIx (.ref n) (.int d) h) Q := by
  obtain ⟨x, e1, e2⟩ := atIx_int h0 h1
  exact Sat.ixL e e1 (q x (List.mem_of_getElem? e2))
end
@[simp] theorem items_its (xs : List D) : (Wk.its xs).items = xs := rfl
@[simp] theorem items_lst (n : Nat) (xs : List D) : (Wk.lst n xs).items = xs := rfl
@[simp] theorem items_rvl (n : Nat) (xs : List D) : (Wk.rvl n xs).items = xs.reverse := rfl
section
variable {Q : D → Hh → Prop} {QW : Wk → Hh → Prop} {h : Hh} {e : En} {xs ys : List D} {a : Den} {x0 x1 x2 x3 x4 x5 x : D}
/-- a walk by the value that is walked -/
def wsK (h : Hh) (x : D) (k : Wk → Prop) : Prop := match x with
  | .tup xs => k (.its xs)
  | .rl xs => k (.its xs)
  | .ref n => ∃ xs, h[n]? = some (.lst xs) ∧ k (.lst n xs)
  | _ => False
def rvK (h : Hh) (x : D) (k : Wk → Prop) : Prop := match x with
  | .tup xs => k (.its xs.reverse)
  | .rl xs => k (.its xs.reverse)
  | .ref n => ∃ xs, h[n]? = some (.lst xs) ∧ k (.rvl n xs)
  | _ => False
theorem Sat.wSeq (s : Sat (a e h) fun x h1 => wsK h1 x fun k => QW k h1) : Sat (PI.wSeq a e h) QW := .bind (s.mono fun x h1 q => by
  cases x with
  | tup xs => exact .ok q
  | rl xs => exact .ok q
  | ref n =>
    obtain ⟨xs, e, q⟩ := q
    simp only [lstAt, e]
    exact .ok q
  | _ => exact q.elim)
instance  : Red (Sat (PI.wSeq a e h) QW) (Sat (a e h) fun x h1 => wsK h1 x fun k => QW k h1) := ⟨Sat.wSeq⟩
theorem Sat.wRev (s : Sat (a e h) fun x h1 => rvK h1 x fun k => QW k h1) : Sat (PI.wRev a e h) QW := .bind (s.mono fun x h1 q => by
  cases x with
  | tup xs => exact .ok q
  | rl xs => exact .ok q
  | ref n =>
    obtain ⟨xs, e, q⟩ := q
    simp only [lstAt, e]
    exact .ok q
  | _ => exact q.elim)
instance  : Red (Sat (PI.wRev a e h) QW) (Sat (a e h) fun x h1 => rvK h1 x fun k => QW k h1) := ⟨Sat.wRev⟩
theorem wsK.tup {k : Wk → Prop} (q : k (.its xs)) : wsK h (.tup xs) k := q
instance {k : Wk → Prop} : Red (wsK h (.tup xs) k) (k (.its xs)) := ⟨wsK.tup⟩
theorem wsK.lst {n : Nat} {k : Wk → Prop} (e : h[n]? = some (.lst xs)) (q : k (.lst n xs)) : wsK h (.ref n) k := ⟨xs, e, q⟩
theorem rvK.tup {k : Wk → Prop} (q : k (.its xs.reverse)) : rvK h (.tup xs) k := q
instance {k : Wk → Prop} : Red (rvK h (.tup xs) k) (k (.its xs.reverse)) := ⟨rvK.tup⟩
theorem rvK.lst {n : Nat} {k : Wk → Prop} (e : h[n]? = some (.lst xs)) (q : k (.rvl n xs)) : rvK h (.ref n) k := ⟨xs, e, q⟩
theorem Sat.ix0 (q : Q x0 h) : Sat (oIx (.tup (x0 :: xs)) (.int 0) h) Q := Sat.ixT (atIx_nat (i := 0) rfl) q
instance  : Red (Sat (oIx (.tup (x0 :: xs)) (.int 0) h) Q) (Q x0 h) := ⟨Sat.ix0⟩
theorem Sat.ix1 (q : Q x1 h) : Sat (oIx (.tup (x0 :: x1 :: xs)) (.int 1) h) Q := Sat.ixT (atIx_nat (i := 1) rfl) q
instance  : Red (Sat (oIx (.tup (x0 :: x1 :: xs)) (.int 1) h) Q) (Q x1 h) := ⟨Sat.ix1⟩
theorem Sat.ix2 (q : Q x2 h) : Sat (oIx (.tup (x0 :: x1 :: x2 :: xs)) (.int 2) h) Q := Sat.ixT (atIx_nat (i := 2) rfl) q
instance  : Red (Sat (oIx (.tup (x0 :: x1 :: x2 :: xs)) (.int 2) h) Q) (Q x2 h) := ⟨Sat.ix2⟩
theorem Sat.ix3 (q : Q x3 h) : Sat (oIx (.tup (x0 :: x1 :: x2 :: x3 :: xs)) (.int 3) h) Q := Sat.ixT (atIx_nat (i := 3) rfl) q
instance  : Red (Sat (oIx (.tup (x0 :: x1 :: x2 :: x3 :: xs)) (.int 3) h) Q) (Q x3 h) := ⟨Sat.ix3⟩
theorem Sat.ix4 (q : Q x4 h) : Sat (oIx (.tup (x0 :: x1 :: x2 :: x3 :: x4 :: xs)) (.int 4) h) Q := Sat.ixT (atIx_nat (i := 4) rfl) q
instance  : Red (Sat (oIx (.tup (x0 :: x1 :: x2 :: x3 :: x4 :: xs)) (.int 4) h) Q) (Q x4 h) := ⟨Sat.ix4⟩
theorem Sat.ix5 (q : Q x5 h) : Sat (oIx (.tup (x0 :: x1 :: x2 :: x3 :: x4 :: x5 :: xs)) (.int 5) h) Q := Sat.ixT (atIx_nat (i := 5) rfl) q
instance  : Red (Sat (oIx (.tup (x0 :: x1 :: x2 :: x3 :: x4 :: x5 :: xs)) (.int 5) h) Q) (Q x5 h) := ⟨Sat.ix5⟩
theorem atIx_last {γ : Type} (xs : List γ) (x : γ) : atIx (xs ++ [x]) (-1) = some x := by
  have c1 : ¬ (0 : Int) ≤ -1 := by decide
  have c2 : -(((xs ++ [x]).length : Nat) : Int) ≤ -1 := by
    rw [List.length_append, List.length_singleton]
    omega
  simp only [atIx, ixOf, if_neg c1, if_pos c2, Option.bind]
  have e : ((-1 : Int) + (((xs ++ [x]).length : Nat) : Int)).toNat = xs.length := by
    rw [List.length_append, List.length_singleton]
    omega
  rw [e]
  simp
theorem Sat.ixLast (q : Q x h) : Sat (oIx (.tup (xs ++ [x])) (.int (-1)) h) Q := Sat.ixT (atIx_last xs x) q
theorem cut_init {γ : Type} (xs : List γ) (x : γ) : cut (xs ++ [x]) none (some (-1)) = xs := by
  have e : ((-1 : Int) + ((xs.length + 1 : Nat) : Int)).toNat = xs.length := by omega
  simp only [cut, sIdx, List.length_append, List.length_singleton, if_pos (show (-1 : Int) < 0 by decide), e, List.drop_zero, Nat.sub_zero]
  simp
end
section
variable {Q : D → Hh → Prop} {QW : Wk → Hh → Prop} {h : Hh} {e : En} {xs ys : List D} {a b : Den} {x : D} {c w : Bool}
theorem Sat.isB (q : isBl c x = some w) (s : Q (.bl w) h) : Sat (cIsB x (.bl c) h) Q := by
  simp only [cIsB, q]
  exact .ok s
theorem Sat.notB (q : isBl c x = some w) (s : Q (.bl (!w)) h) : Sat (cNotB x (.bl c) h) Q := by
  simp only [cNotB, q]
  exact .ok s
theorem Sat.inT (q : inItems x xs = some w) (s : Q (.bl w) h) : Sat (cIn x (.tup xs) h) Q := by
  simp only [cIn, inR, q]
  exact .ok s
theorem Sat.ninT (q : inItems x xs = some w) (s : Q (.bl (!w)) h) : Sat (cNin x (.tup xs) h) Q := by
  simp only [cNin, inR, q]
  exact .ok s
theorem Sat.inL {n : Nat} (e : h[n]? = some (.lst xs)) (q : inItems x xs = some w) (s : Q (.bl w) h) : Sat (cIn x (.ref n) h) Q := by
  simp only [cIn, inR, listOf, lstAt, e, q]
  exact .ok s
theorem Sat.ninL {n : Nat} (e : h[n]? = some (.lst xs)) (q : inItems x xs = some w) (s : Q (.bl (!w)) h) : Sat (cNin x (.ref n) h) Q := by
  simp only [cNin, inR, listOf, lstAt, e, q]
  exact .ok s
def zpK (x y : D) (h : Hh) (k : List D → Prop) : Prop := match x, y with
  | .tup xs, .tup ys => k (zipD xs ys)
  | _, _ => False
theorem zpK.mk {k : List D → Prop} (q : k (zipD xs ys)) : zpK (.tup xs) (.tup ys) h k := q
instance {k : List D → Prop} : Red (zpK (.tup xs) (.tup ys) h k) (k (zipD xs ys)) := ⟨zpK.mk⟩
theorem Sat.zipL (s : Sat (a e h) fun x h1 => Sat (b e h1) fun y h2 => zpK x y h2 fun zs => Q (.ref h2.length) (h2 ++ [.lst zs])) : Sat (dZipL a b e h) Q := .bind (s.mono fun x h1 s => .bind (s.mono fun y h2 q => by
  cases x <;> first
    | exact q.elim
    | skip
  cases y <;> first
    | exact q.elim
    | skip
  exact .ok q))
instance  : Red (Sat (dZipL a b e h) Q) (Sat (a e h) fun x h1 => Sat (b e h1) fun y h2 => zpK x y h2 fun zs => Q (.ref h2.length) (h2 ++ [.lst zs])) := ⟨Sat.zipL⟩
def zwK (x y : D) (h : Hh) (k : Wk → Prop) : Prop := match x, y with
  | .tup xs, .tup ys => k (.its (zipD xs ys))
  | .ref m, .ref n => ∃ xs ys, h[m]? = some (.lst xs) ∧ h[n]? = some (.lst ys) ∧ k (.zpl m xs n ys)
  | _, _ => False
theorem zwK.tup {k : Wk → Prop} (q : k (.its (zipD xs ys))) : zwK (.tup xs) (.tup ys) h k := q
instance {k : Wk → Prop} : Red (zwK (.tup xs) (.tup ys) h k) (k (.its (zipD xs ys))) := ⟨zwK.tup⟩
theorem zwK.lst {m n : Nat} {k : Wk → Prop} (e1 : h[m]? = some (.lst xs)) (e2 : h[n]? = some (.lst ys)) (q : k (.zpl m xs n ys)) : zwK (.ref m) (.ref n) h k := ⟨xs, ys, e1, e2, q⟩
theorem Sat.wZip (s : Sat (a e h) fun x h1 => Sat (b e h1) fun y h2 => zwK x y h2 fun w => QW w h2) : Sat (PI.wZip a b e h) QW := .bind (s.mono fun x h1 s => .bind (s.mono fun y h2 q => by
  cases x <;> first
    | exact q.elim
    | skip
  · cases y <;> first
      | exact q.elim
      | skip
    exact .ok q
  · cases y <;> first
      | exact q.elim
      | skip
    obtain ⟨xs, ys, e1, e2, q⟩ := q
    simp only [lstAt, e1, e2]
    exact .ok q))
instance  : Red (Sat (PI.wZip a b e h) QW) (Sat (a e h) fun x h1 => Sat (b e h1) fun y h2 => zwK x y h2 fun w => QW w h2) := ⟨Sat.wZip⟩
theorem Sat.revL {n : Nat} (e : h[n]? = some (.lst xs)) (q : Q (.ref h.length) (h ++ [.lst xs.reverse])) : Sat (oRev (.ref n) h) Q := by
  simp only [oRev, listOf, lstAt, e]
  exact .ok q
theorem Sat.str {i : Int} (c : i.natAbs.log2 < 1920) (q : Q (.str (decStr i)) h) : Sat (bStr [.int i] h) Q := by
  simp only [bStr, if_pos c]
  exact .ok q
theorem Sat.index {n j : Nat} (e : h[n]? = some (.lst xs)) (c : (D.fitL xs && x.fit) = true) (ej : idxOf x xs = some j) (q : Q (.int (j : Nat)) h) : Sat (mIndex (.ref n) [x] h) Q := by
  simp only [mIndex, listOf, lstAt, e, if_pos c, ej]
  exact .ok q
end
end PI
/-! ## PiH -/
set_option Elab.async false
set_option linter.all false
set_option maxRecDepth 100000
set_option maxHeartbeats 1000000
set_option autoImplicit false
/-! PI, helpers that many laws share. -/
namespace PI
local macro_rules | `(tactic| walk_at "pi") => `(tactic| (
  first
  | (with_reducible refine PI.red ?_)
  | ((with_reducible show PI.Sat (PI.dVar _ _ _) _); refine Sat.var rfl ?_)
  | ((with_reducible show PI.Sat (PI.sAug _ _ _ _ _) _); refine Sat.aug rfl ?_)
  | ((with_reducible show PI.npK _ _ _); refine npK.mk rfl ?_)
  | ((with_reducible show PI.szK _ _); refine szK.mk (by simp only [List.length_cons, List.length_nil]; decide) ?_)
  | ((with_reducible show PI.isaK _ _ _ _); refine isaK.mk rfl ?_)
  | ((with_reducible show PI.ifK _ _ _); first | (refine ifK.t (by rfl) ?_) | (refine ifK.f (by rfl) ?_))
  | ((with_reducible show PI.Sat (PI.gTp _ _ _ _ _) _); refine Sat.gTp rfl ?_)
  | ((with_reducible show PI.Sat (PI.cIsB _ _ _) _); refine Sat.isB rfl ?_)
  | ((with_reducible show PI.Sat (PI.cNotB _ _ _) _); refine Sat.notB rfl ?_)
  | ((with_reducible show PI.Sat (PI.cIn _ (PI.D.tup _) _) _); refine Sat.inT rfl ?_)
  | ((with_reducible show PI.Sat (PI.cNin _ (PI.D.tup _) _) _); refine Sat.ninT rfl ?_)
  | ((with_reducible show PI.Sat (PI.cIsN _ _) _); refine Sat.isN rfl ?_)
  | ((with_reducible show PI.Sat (PI.cNotN _ _) _); refine Sat.notN rfl ?_)
  | ((with_reducible show PI.Sat (PI.oPow _ _ _) _); refine Sat.powI (by decide) ?_)))
theorem Sat.start {T : Nat → Df} {k n ps f : Nat} {b : Cal → SDen} {ds : List D} {h : Hh} {Q : D → Hh → Prop} (hT : T k = ⟨n, ps, b⟩) (c : ds.length = ps) (s : Sat (b (sem T f) (ds.map some ++ List.replicate (n - ps) none) h) (retK Q)) : Sat (sem T (f + 1) k ds h) Q := by
  unfold sem
  rw [hT]
  exact Sat.body c s
theorem Sat.start3 {T : Nat → Df} {k f : Nat} {b : Cal → SDen} {d0 d1 d2 : D} {h : Hh} {Q : D → Hh → Prop} (hT : T k = ⟨3, 3, b⟩) (s : Sat (b (sem T f) [some d0, some d1, some d2] h) (retK Q)) : Sat (sem T (f + 1) k [d0, d1, d2] h) Q := .start hT rfl s
/-! ### _law_pick(tape, at, many) over a list of ints -/
def pickB : SDen :=
 (sRet (dBin oMod (dArgs bInt (aCons (dBin oIx (dVar 0) (dBin oMod (dArgs bInt (aCons (dVar 1) aNil)) (dArgs bLen (aCons (dVar 0) aNil)))) aNil)) (dVar 2)))
theorem pick_ok {T : Nat → Df} {k f : Nat} (hT : T k = ⟨3, 3, fun _ => pickB⟩) {h : Hh} {t : Nat} {xs : List Int} {i m : Int} (e : h[t]? = some (.lst (xs.map .int))) (hx : xs ≠ []) (hm : 0 < m) :
    Sat (sem T (f + 1) k [.ref t, .int i, .int m] h) fun r h' => h' = h ∧ ∃ d : Int, r = .int d ∧ 0 ≤ d ∧ d < m := by
  have hl : 0 < xs.length := by
    cases xs with
    | nil => exact absurd rfl hx
    | cons _ _ => simp
  refine Sat.start3 hT ?_
  unfold pickB
  repeat walk_at "pi"
  refine Sat.lenL e ?_
  rw [List.length_map]
  refine Sat.modI (by omega) ?_
  have m0 : 0 ≤ i.fmod xs.length := Int.fmod_nonneg_of_pos _ (by omega)
  have m1 : i.fmod xs.length < xs.length := Int.fmod_lt_of_pos _ (by omega)
  obtain ⟨x, e1, e2⟩ := atIx_int (xs := xs.map D.int) m0 (by rw [List.length_map]; exact m1)
  refine Sat.ixL e e1 ?_
  rw [List.getElem?_map, Option.map_eq_some_iff] at e2
  obtain ⟨y, _, rfl⟩ := e2
  repeat walk_at "pi"
  refine Sat.modI (by omega) ?_
  repeat walk_at "pi"
  exact ⟨rfl, _, rfl, Int.fmod_nonneg_of_pos _ hm, Int.fmod_lt_of_pos _ hm⟩
/-! ### _law_same(a, b) -/
def sameB (k : Nat) (c : Cal) : SDen :=
 (sSeq (sIf (PI.tOr (PI.tAnd (tT (dIsA .tuple (dVar 0))) (tT (dIsA .tuple (dVar 1)))) (PI.tAnd (tT (dIsA .list (dVar 0))) (tT (dIsA .list (dVar 1)))))
 (sRet (dAnd (dBin cEq (dArgs bLen (aCons (dVar 0) aNil)) (dArgs bLen (aCons (dVar 1) aNil))) (dArgs fAll (aComp (wRng1 (dArgs bLen (aCons (dVar 0) aNil))) [2] (gNm 2) PI.tYes (dCallN c k 2 (aCons (dBin oIx (dVar 0) (dVar 2)) (aCons (dBin oIx (dVar 1) (dVar 2)) aNil)))))))
 sNil)
 (sSeq (sIf (PI.tAnd (tT (dIsA .dict (dVar 0))) (tT (dIsA .dict (dVar 1))))
 (sRet (dAnd (dBin cEq (dArgs bLen (aCons (dVar 0) aNil)) (dArgs bLen (aCons (dVar 1) aNil))) (dArgs fAll (aComp (wSeq (dVar 0)) [3] (gNm 3) PI.tYes (dAnd (dBin cIn (dVar 3) (dVar 1)) (dCallN c k 2 (aCons (dBin oIx (dVar 0) (dVar 3)) (aCons (dBin oIx (dVar 1) (dVar 3)) aNil))))))))
 sNil)
 (sSeq (sIf (PI.tOr (tT (dIsA .bool (dVar 0))) (tT (dIsA .bool (dVar 1))))
 (sRet (dAnd (dIsA .bool (dVar 0)) (dAnd (dIsA .bool (dVar 1)) (dBin cEq (dVar 0) (dVar 1)))))
 sNil)
 (sSeq (sIf (PI.tOr (PI.tAnd (tT (dIsA .int (dVar 0))) (tT (dIsA .int (dVar 1)))) (PI.tAnd (tT (dIsA .str (dVar 0))) (tT (dIsA .str (dVar 1)))))
 (sRet (dBin cEq (dVar 0) (dVar 1)))
 sNil)
 (sRet (dAnd (dUn cIsN (dVar 0)) (dUn cIsN (dVar 1))))))))
mutual
/-- data of scalars and tuples alone -/
def D.plain : D → Bool
  | .non => true | .bl _ => true | .int _ => true | .str _ => true
  | .tup xs => decide (xs.length ≤ SL) && D.plainL xs
  | _ => false
def D.plainL : List D → Bool
  | [] => true
  | x :: xs => D.plain x && D.plainL xs
end
theorem plainL_at : ∀ {xs : List D} {i : Nat} {d : D}, D.plainL xs = true → xs[i]? = some d → d.plain = true
  | [], i, d, _, e => by simp at e
  | x :: xs, 0, d, h, e => by
    simp only [D.plainL, Bool.and_eq_true] at h
    simp at e
    rw [← e]
    exact h.1
  | x :: xs, i + 1, d, h, e => by
    simp only [D.plainL, Bool.and_eq_true] at h
    exact plainL_at h.2 (by simpa using e)
theorem deepL_at : ∀ {xs : List D} {i : Nat} {d : D}, xs[i]? = some d → d.deep ≤ D.deepL xs
  | [], i, d, e => by simp at e
  | x :: xs, 0, d, e => by
    simp at e
    rw [← e, D.deepL]
    omega
  | x :: xs, i + 1, d, e => by
    have q := deepL_at (xs := xs) (i := i) (d := d) (by simpa using e)
    rw [D.deepL]
    omega
theorem sameL_all : ∀ {xs ys : List D}, xs.length = ys.length → D.sameL xs ys = ((List.range xs.length).map fun i => (xs[i]?.bind fun x => ys[i]?.map fun y => D.same x y).getD false).all id
  | [], [], _ => by simp [D.sameL]
  | [], y :: ys, h => by simp at h
  | x :: xs, [], h => by simp at h
  | x :: xs, y :: ys, h => by
    have ih := sameL_all (xs := xs) (ys := ys) (by simpa using h)
    rw [D.sameL, ih, List.length_cons, List.range_succ_eq_map, List.map_cons, List.all_cons, List.map_map]
    rfl
theorem blsOf_map : ∀ bs : List Bool, blsOf (bs.map D.bl) = some bs
  | [] => rfl
  | b :: bs => by simp [blsOf, blsOf_map bs]
theorem lineI_len {n : Nat} (h : n ≤ SL) : lineI (n : Int) := by
  unfold lineI SL at *
  constructor <;> omega
theorem Sat.start2 {T : Nat → Df} {k f : Nat} {b : Cal → SDen} {d0 d1 : D} {h : Hh} {Q : D → Hh → Prop} (hT : T k = ⟨4, 2, b⟩) (s : Sat (b (sem T f) [some d0, some d1, none, none] h) (retK Q)) : Sat (sem T (f + 1) k [d0, d1] h) Q := .start hT rfl s
def D.isTup : D → Bool
  | .tup _ => true
  | _ => false
theorem same_base {T : Nat → Df} {k : Nat} (hT : T k = ⟨4, 2, sameB k⟩) (f : Nat) (a b : D) (h : Hh) (ha : a.plain = true) (hb : b.plain = true) (hn : (a.isTup && b.isTup) = false) : Sat (sem T (f + 1) k [a, b] h) fun r h' => h' = h ∧ r = .bl (D.same a b) := by
  refine .start2 hT ?_
  unfold sameB
  cases a <;> first
    | (simp [D.plain] at ha; done)
    | (cases b <;> first
      | (simp [D.plain] at hb; done)
      | (simp [D.isTup] at hn; done)
      | (repeat walk_at "pi"
         all_goals simp [D.same, beq_dec]))
theorem same_tup {T : Nat → Df} {k : Nat} (hT : T k = ⟨4, 2, sameB k⟩) (f : Nat) (xs ys : List D) (h : Hh) (hl : xs.length ≤ SL)
    (ih : ∀ (i : Nat) (x y : D), xs[i]? = some x → ys[i]? = some y → Sat (sem T f k [x, y] h) fun r h' => h' = h ∧ r = .bl (D.same x y)) : Sat (sem T (f + 1) k [.tup xs, .tup ys] h) fun r h' => h' = h ∧ r = .bl (D.same (.tup xs) (.tup ys)) := by
  refine .start2 hT ?_
  unfold sameB
  repeat walk_at "pi"
  refine ifK.d (fun hlen => ?_) fun hlen => ?_
  · have hlen : xs.length = ys.length := by omega
    repeat walk_at "pi"
    refine ⟨lineI_len hl, ?_⟩
    repeat walk_at "pi"
    refine Sat.compIx (fun i acc h' => h' = h ∧ acc = ((List.range i).map fun i => D.bl ((xs[i]?.bind fun x => ys[i]?.map fun y => D.same x y).getD false))) ⟨rfl, rfl⟩ (fun _ _ _ _ => rfl) (fun i d acc h' e ⟨eh, ea⟩ => ?_) fun acc h' ⟨eh, ea⟩ => ?_
    · obtain ⟨hi, rfl⟩ := rng_at e
      subst eh
      have hi : i < xs.length := by simpa using hi
      have e0 : (0 : Int) + (i : Int) = (i : Int) := by omega
      rw [e0]
      have ex : xs[i]? = some xs[i] := List.getElem?_eq_getElem hi
      have ey : ys[i]? = some (ys[i]'(by omega)) := List.getElem?_eq_getElem (by omega)
      repeat walk_at "pi"
      refine Sat.ixT (atIx_nat ex) ?_
      repeat walk_at "pi"
      refine Sat.ixT (atIx_nat ey) ?_
      repeat walk_at "pi"
      refine (ih i _ _ ex ey).mono fun r h2 ⟨eh, er⟩ => ?_
      subst eh er
      refine ⟨by rw [ea]; simp; omega, rfl, ?_⟩
      rw [ea, List.range_succ, List.map_append, List.map_singleton, ex, ey]
      rfl
    · subst eh
      rw [rng_len] at ea
      refine Sat.fAll (bs := (List.range xs.length).map fun i => (xs[i]?.bind fun x => ys[i]?.map fun y => D.same x y).getD false) ?_ ?_
      · rw [ea, ← blsOf_map ((List.range xs.length).map _), List.map_map]
        simp
        rfl
      · repeat walk_at "pi"
        refine ⟨rfl, ?_⟩
        rw [D.same, sameL_all hlen]
  · repeat walk_at "pi"
    refine ⟨rfl, ?_⟩
    have hne : ∀ {xs ys : List D}, xs.length ≠ ys.length → D.sameL xs ys = false := fun {xs} => by
      induction xs with
      | nil => intro ys h; cases ys <;> simp_all [D.sameL]
      | cons x xs ih => intro ys h; cases ys with
        | nil => rfl
        | cons y ys => rw [D.sameL, ih (by simpa using h), Bool.and_false]
    rw [D.same, hne (by omega), decide_eq_false hlen]
/-- on such data _law_same tells whether they are the same -/
theorem same_ok {T : Nat → Df} {k : Nat} (hT : T k = ⟨4, 2, sameB k⟩) : ∀ (f : Nat) (a b : D) (h : Hh), a.plain = true → b.plain = true → a.deep ≤ f → Sat (sem T (f + 1) k [a, b] h) fun r h' => h' = h ∧ r = .bl (D.same a b)
  | f, a, b, h, ha, hb, hd => by
    cases hn : a.isTup && b.isTup with
    | false => exact same_base hT f a b h ha hb hn
    | true =>
      cases a <;> first
        | (cases hn; done)
        | skip
      cases b <;> first
        | (cases hn; done)
        | skip
      rename_i xs ys
      rw [D.deep] at hd
      simp only [D.plain, Bool.and_eq_true, decide_eq_true_eq] at ha hb
      cases f with
      | zero => omega
      | succ f =>
        refine same_tup hT (f + 1) xs ys h ha.1 fun i x y ex ey => same_ok hT f x y h (plainL_at ha.2 ex) (plainL_at hb.2 ey) ?_
        have := deepL_at ex
        omega
end PI
/-! ## PiT -/
set_option Elab.async false
set_option linter.all false
set_option maxRecDepth 100000
set_option maxHeartbeats 1000000
set_option autoImplicit false
/-! PI, helpers: the tapes. -/
namespace PI
local macro_rules | `(tactic| walk_at "pi") => `(tactic| (
  first
  | (with_reducible refine PI.red ?_)
  | ((with_reducible show PI.Sat (PI.dVar _ _ _) _); refine Sat.var rfl ?_)
  | ((with_reducible show PI.Sat (PI.sAug _ _ _ _ _) _); refine Sat.aug rfl ?_)
  | ((with_reducible show PI.npK _ _ _); refine npK.mk rfl ?_)
  | ((with_reducible show PI.szK _ _); refine szK.mk (by simp only [List.length_cons, List.length_nil]; decide) ?_)
  | ((with_reducible show PI.isaK _ _ _ _); refine isaK.mk rfl ?_)
  | ((with_reducible show PI.ifK _ _ _); first | (refine ifK.t (by rfl) ?_) | (refine ifK.f (by rfl) ?_))
  | ((with_reducible show PI.Sat (PI.gTp _ _ _ _ _) _); refine Sat.gTp rfl ?_)
  | ((with_reducible show PI.Sat (PI.cIsB _ _ _) _); refine Sat.isB rfl ?_)
  | ((with_reducible show PI.Sat (PI.cNotB _ _ _) _); refine Sat.notB rfl ?_)
  | ((with_reducible show PI.Sat (PI.cIn _ (PI.D.tup _) _) _); refine Sat.inT rfl ?_)
  | ((with_reducible show PI.Sat (PI.cNin _ (PI.D.tup _) _) _); refine Sat.ninT rfl ?_)
  | ((with_reducible show PI.Sat (PI.cIsN _ _) _); refine Sat.isN rfl ?_)
  | ((with_reducible show PI.Sat (PI.cNotN _ _) _); refine Sat.notN rfl ?_)
  | ((with_reducible show PI.Sat (PI.oPow _ _ _) _); refine Sat.powI (by decide) ?_)))
theorem log_lt {n k : Nat} (h : n < 2 ^ k) (hk : 0 < k) : n.log2 < k := by
  by_cases e : n = 0
  · subst e
    simpa using hk
  · exact (Nat.log2_lt e).mpr h
theorem mulOk_of {x y : Int} {a b : Nat} (hx : x.natAbs.log2 < a) (hy : y.natAbs.log2 < b) (hab : a + b ≤ 100000000) : mulOk x y := by
  unfold mulOk MUL
  omega
theorem intsOf_map : ∀ is : List Int, intsOf (is.map D.int) = some is
  | [] => rfl
  | i :: is => by simp [intsOf, intsOf_map is]
theorem maxL_mem : ∀ (is : List Int) (m : Int), maxL m is = m ∨ maxL m is ∈ is
  | [], m => .inl rfl
  | i :: is, m => by
    rw [maxL]
    rcases maxL_mem is (if i > m then i else m) with e | e
    · split at e
      · rename_i c
        rw [if_pos c, e]
        exact .inr (by simp)
      · rename_i c
        rw [if_neg c, e]
        exact .inl rfl
    · exact .inr (List.mem_cons_of_mem _ e)
theorem Sat.max1 {h : Hh} {Q : D → Hh → Prop} {n : Nat} {i : Int} {is : List Int} (e : h[n]? = some (.lst ((i :: is).map .int))) (q : Q (.int (maxL i is)) h) : Sat (bMax1 [.ref n] h) Q := by
  simp only [bMax1, listOf, lstAt, e, Option.bind, intsOf_map]
  exact .ok q
theorem cut_take {γ : Type} (xs : List γ) (n : Nat) (h : xs.length ≤ n) : cut xs none (some (n : Int)) = xs := by
  simp only [cut, sIdx, List.drop_zero, Nat.sub_zero]
  rw [if_neg (by omega), Int.toNat_natCast, Nat.min_eq_right h, List.take_length]
def tape2R : SDen :=
 (sSeq (sAsg (dBin oAdd (dC (.int 12345)) (dArgs bLen (aCons (dVar 2) aNil))) (gNm 5))
 (sSeq (sAsg (dLst aNil) (gNm 6))
 (sSeq (sFor (wRng1 (dVar 1)) (gNm 7)
 (sIf (tV (dBin cGt (dVar 4) (dC (.int 0))))
 (sSeq (sExpr (dMeth mAppend (dVar 6) (aCons (dBin oMod (dArgs bInt (aCons (dVar 4) aNil)) (dC (.int 1009))) aNil)))
 (sAsg (dBin oDiv (dVar 4) (dC (.int 1009))) (gNm 4)))
 (sSeq (sAsg (dBin oMod (dArgs bInt (aCons (dBin oAdd (dBin oAdd (dBin oMul (dVar 5) (dC (.int 48271))) (dBin oMul (dBin oIx (dVar 2) (dBin oMod (dArgs bInt (aCons (dVar 7) aNil)) (dArgs bLen (aCons (dVar 2) aNil)))) (dC (.int 69621)))) (dVar 7)) aNil)) (dC (.int 2147483647))) (gNm 5))
 (sExpr (dMeth mAppend (dVar 6) (aCons (dBin oMod (dArgs bInt (aCons (dBin oAdd (dBin oMul (dVar 5) (dC (.int 16807))) (dBin oMul (dVar 7) (dC (.int 7919)))) aNil)) (dC (.int 1000003))) aNil))))))
 (sRet (dVar 6)))))
def tape2B (_ : Cal) : SDen :=
 (sSeq (sAsg (dLst (aCons (dC (.int 0)) aNil)) (gNm 2))
 (sSeq (sFor (wSeq (dSl (dVar 0) pNone (pSome (dC (.int 63))))) (gNm 3)
 (sExpr (dMeth mAppend (dVar 2) (aCons (dArgs bAbs (aCons (dVar 3) aNil)) aNil))))
 (sSeq (sAsg (dArgs bMax1 (aCons (dVar 2) aNil)) (gNm 4))
 (sSeq (sIf (tV (dBin cLt (dVar 4) (dBin oPow (dC (.int 10)) (dC (.int 18)))))
 (sAsg (dC (.int 0)) (gNm 4))
 sNil)
(tape2R)))))
/-- a list of ints, none too long -/
def Cells (cs : List Int) : Prop := cs ≠ [] ∧ cs.length ≤ 64 ∧ ∀ z ∈ cs, z.natAbs.log2 < 1048576
theorem Sat.start28 {T : Nat → Df} {k f : Nat} {b : Cal → SDen} {d0 d1 : D} {h : Hh} {Q : D → Hh → Prop} (hT : T k = ⟨8, 2, b⟩) (s : Sat (b (sem T f) [some d0, some d1, none, none, none, none, none, none] h) (retK Q)) : Sat (sem T (f + 1) k [d0, d1] h) Q := .start hT rfl s
theorem fmod_bd {x m : Int} (hm : 0 < m) : 0 ≤ x.fmod m ∧ x.fmod m < m := ⟨Int.fmod_nonneg_of_pos _ hm, Int.fmod_lt_of_pos _ hm⟩
theorem nat_log_lt {x : Int} {k : Nat} (h0 : 0 ≤ x) (h1 : x < 2 ^ k) (hk : 0 < k) : x.natAbs.log2 < k := log_lt (by
  have e : ((x.natAbs : Nat) : Int) = x := Int.natAbs_of_nonneg h0
  have h2 : ((x.natAbs : Nat) : Int) < ((2 ^ k : Nat) : Int) := by
    rw [e]
    simpa using h1
  exact Int.ofNat_lt.mp h2) hk
theorem tape2_rest {h h0 : Hh} {c : Nat} {d0 : D} {v3 : Option D} {m : Nat} {cs : List Int} {big : Int} (hc : Cells cs) (hm : m ≤ 100000) (hx : Ext h0 h) (hn : h0.length ≤ h.length) (e1 : h[c]? = some (.lst (cs.map .int))) :
    Sat (tape2R [some d0, some (.int m), some (.ref c), v3, some (.int big), none, none, none] h) (retK fun r h' => ∃ (j : Nat) (ts : List Int), r = .ref j ∧ h'[j]? = some (.lst (ts.map .int)) ∧ ts.length = m ∧ Ext h0 h' ∧ h0.length ≤ j) := by
  unfold tape2R
  repeat walk_at "pi"
  refine Sat.lenL e1 ?_
  repeat walk_at "pi"
  refine ⟨⟨by omega, by omega⟩, ?_⟩
  have hcl := lt_of_at e1
  have hc0 : 0 < cs.length := List.length_pos_iff.mpr hc.1
  refine Sat.forIx (fun i e h' => ∃ (ts : List Int) (big val : Int) (v7 : Option D), e = [some d0, some (.int m), some (.ref c), v3, some (.int big), some (.int val), some (.ref h.length), v7] ∧ 0 ≤ val ∧ val < 2 ^ 40 ∧ ts.length = i ∧ Ext h0 h' ∧ h'[c]? = some (.lst (cs.map .int)) ∧ h'[h.length]? = some (.lst (ts.map .int)))
    ⟨[], big, _, none, rfl, by omega, ?_, rfl, hx.trans Ext.push, Ext.push.at e1, at_push⟩ (fun _ _ _ _ => rfl) (fun i d e h' hd ⟨ts, big, val, v7, ee, hv0, hv1, hti, hx', e1', e2⟩ => ?_) fun e h' ⟨ts, big, val, v7, ee, hv0, hv1, hti, hx', e1', e2⟩ => ?_
  · have q := hc.2.1
    rw [List.length_map]
    have : (2 : Int) ^ 40 = 1099511627776 := by decide
    omega
  · obtain ⟨hi, rfl⟩ := rng_at hd
    subst ee
    have hi : i < m := by simpa using hi
    have b40 : (2 : Int) ^ 40 = 1099511627776 := by decide
    repeat walk_at "pi"
    refine ifK.d (fun cc => ?_) fun cc => ?_
    · repeat walk_at "pi"
      refine lsK.mk e2 ?_
      repeat walk_at "pi"
      refine Sat.modI (by decide) ?_
      repeat walk_at "pi"
      refine Sat.append e2 (by rw [List.length_map]; unfold SL; omega) ?_
      repeat walk_at "pi"
      refine Sat.divI (by decide) ?_
      repeat walk_at "pi"
      exact ⟨ts ++ [big.fmod 1009], _, val, _, rfl, hv0, hv1, by simp; omega, hx'.set hn, by rw [List.getElem?_set_ne (by omega)]; exact e1', by rw [at_set e2]; simp⟩
    · repeat walk_at "pi"
      refine Sat.mulI (mulOk_of (nat_log_lt hv0 hv1 (by decide)) (b := 64) (by decide) (by decide)) ?_
      repeat walk_at "pi"
      refine Sat.lenL e1' ?_
      rw [List.length_map]
      refine Sat.modI (by omega) ?_
      have m0 := fmod_bd (x := 0 + (i : Int)) (m := (cs.length : Int)) (by omega)
      obtain ⟨x, f1, f2⟩ := atIx_int (xs := cs.map D.int) m0.1 (by rw [List.length_map]; exact m0.2)
      refine Sat.ixL e1' f1 ?_
      rw [List.getElem?_map, Option.map_eq_some_iff] at f2
      obtain ⟨y, hy, rfl⟩ := f2
      repeat walk_at "pi"
      refine Sat.mulI (mulOk_of (hc.2.2 y (List.mem_of_getElem? hy)) (b := 64) (by decide) (by decide)) ?_
      repeat walk_at "pi"
      refine Sat.modI (by decide) ?_
      repeat walk_at "pi"
      refine lsK.mk e2 ?_
      repeat walk_at "pi"
      have m1 := fmod_bd (x := val * 48271 + y * 69621 + (0 + (i : Int))) (m := 2147483647) (by decide)
      refine Sat.mulI (mulOk_of (nat_log_lt (k := 40) m1.1 (by omega) (by decide)) (b := 64) (by decide) (by decide)) ?_
      repeat walk_at "pi"
      refine Sat.mulI (mulOk_of (nat_log_lt (k := 40) (by omega) (by omega) (by decide)) (b := 64) (by decide) (by decide)) ?_
      repeat walk_at "pi"
      refine Sat.modI (by decide) ?_
      repeat walk_at "pi"
      refine Sat.append e2 (by rw [List.length_map]; unfold SL; omega) ?_
      exact ⟨ts ++ [_], big, _, _, rfl, m1.1, by omega, by simp; omega, hx'.set hn, by rw [List.getElem?_set_ne (by omega)]; exact e1', by rw [at_set e2, List.map_append]; rfl⟩
  · subst ee
    rw [rng_len] at hti
    repeat walk_at "pi"
    exact ⟨_, ts, rfl, e2, by simpa using hti, hx', hn⟩
theorem tape2_ok {T : Nat → Df} {k f : Nat} (hT : T k = ⟨8, 2, tape2B⟩) {h : Hh} {ns : List Int} {m : Nat} (hl : ns.length ≤ 63) (hb : ∀ z ∈ ns, z.natAbs.log2 < 1048576) (hm : m ≤ 100000) :
    Sat (sem T (f + 1) k [.rl (ns.map .int), .int m] h) fun r h' => ∃ (j : Nat) (ts : List Int), r = .ref j ∧ h'[j]? = some (.lst (ts.map .int)) ∧ ts.length = m ∧ Ext h h' ∧ h.length ≤ j := by
  refine .start28 hT ?_
  unfold tape2B
  repeat walk_at "pi"
  have e63 : cut (ns.map D.int) none (some (63 : Int)) = ns.map D.int := cut_take _ 63 (by simpa using hl)
  rw [e63]
  refine wsK.lst at_push ?_
  have e0 : ((h ++ [Ob.lst [D.int 0]]) ++ [Ob.lst (ns.map D.int)])[h.length]? = some (.lst [D.int 0]) := by simp
  have l0 : ((h ++ [Ob.lst [D.int 0]]) ++ [Ob.lst (ns.map D.int)]).length = h.length + 2 := by simp
  refine Sat.forIx (fun i e h' => ∃ (cs : List Int) (v3 : Option D), e = [some (.rl (ns.map .int)), some (.int m), some (.ref h.length), v3, none, none, none, none] ∧ Cells cs ∧ cs.length = i + 1 ∧ Ext h h' ∧ h'.length = h.length + 2 ∧ h'[h.length]? = some (.lst (cs.map .int)) ∧ h'[h.length + 1]? = some (.lst (ns.map .int)))
    ⟨[0], none, rfl, ⟨by simp, by simp, by simp⟩, rfl, Ext.push.trans Ext.push, l0, e0, by simp⟩ (fun i e h' ⟨cs, v3, _, _, _, _, _, _, e2⟩ => Wk.still_lst (by simp only [List.length_append, List.length_singleton, lstAt, e2])) (fun i d e h' hd ⟨cs, v3, ee, hc, hci, hx, hlen, e1, e2⟩ => ?_) fun e h' ⟨cs, v3, ee, hc, hci, hx, hlen, e1, e2⟩ => ?_
  · subst ee
    have hd' : (ns.map D.int)[i]? = some d := hd
    rw [List.getElem?_map, Option.map_eq_some_iff] at hd'
    obtain ⟨z, hz, rfl⟩ := hd'
    have hi : i < ns.length := (List.getElem?_eq_some_iff.mp hz).1
    repeat walk_at "pi"
    refine lsK.mk e1 ?_
    repeat walk_at "pi"
    refine Sat.append e1 (by rw [List.length_map]; unfold SL; omega) ?_
    refine ⟨cs ++ [if z < 0 then -z else z], _, rfl, ⟨by simp, by simp; omega, fun y hy => ?_⟩, by simp; omega, hx.set (Nat.le_refl _), by simpa using hlen, by rw [at_set e1]; simp, by rw [List.getElem?_set_ne (by omega)]; exact e2⟩
    rcases List.mem_append.mp hy with hy | hy
    · exact hc.2.2 y hy
    · rw [List.mem_singleton.mp hy]
      have q := hb z (List.mem_of_getElem? hz)
      split
      · rw [Int.natAbs_neg]
        exact q
      · exact q
  · subst ee
    obtain ⟨hne, hcl, hcb⟩ := hc
    obtain ⟨c0, cr, rfl⟩ := List.exists_cons_of_ne_nil hne
    repeat walk_at "pi"
    refine Sat.max1 e1 ?_
    repeat walk_at "pi"
    refine ifK.d (fun _ => ?_) fun _ => ?_
    · repeat walk_at "pi"
      exact tape2_rest ⟨hne, hcl, hcb⟩ hm hx (by omega) e1
    · repeat walk_at "pi"
      exact tape2_rest ⟨hne, hcl, hcb⟩ hm hx (by omega) e1
end PI
/-! ## PiU -/
set_option Elab.async false
set_option linter.all false
set_option maxRecDepth 100000
set_option maxHeartbeats 1000000
set_option autoImplicit false
/-! PI, helpers: the tape that is drawn from, at 1 of the heap, its cells at 0. -/
namespace PI
local macro_rules | `(tactic| walk_at "pi") => `(tactic| (
  first
  | (with_reducible refine PI.red ?_)
  | ((with_reducible show PI.Sat (PI.dVar _ _ _) _); refine Sat.var rfl ?_)
  | ((with_reducible show PI.Sat (PI.sAug _ _ _ _ _) _); refine Sat.aug rfl ?_)
  | ((with_reducible show PI.npK _ _ _); refine npK.mk rfl ?_)
  | ((with_reducible show PI.szK _ _); refine szK.mk (by simp only [List.length_cons, List.length_nil]; decide) ?_)
  | ((with_reducible show PI.isaK _ _ _ _); refine isaK.mk rfl ?_)
  | ((with_reducible show PI.ifK _ _ _); first | (refine ifK.t (by rfl) ?_) | (refine ifK.f (by rfl) ?_))
  | ((with_reducible show PI.Sat (PI.gTp _ _ _ _ _) _); refine Sat.gTp rfl ?_)
  | ((with_reducible show PI.Sat (PI.cIsB _ _ _) _); refine Sat.isB rfl ?_)
  | ((with_reducible show PI.Sat (PI.cNotB _ _ _) _); refine Sat.notB rfl ?_)
  | ((with_reducible show PI.Sat (PI.cIn _ (PI.D.tup _) _) _); refine Sat.inT rfl ?_)
  | ((with_reducible show PI.Sat (PI.cNin _ (PI.D.tup _) _) _); refine Sat.ninT rfl ?_)
  | ((with_reducible show PI.Sat (PI.cIsN _ _) _); refine Sat.isN rfl ?_)
  | ((with_reducible show PI.Sat (PI.cNotN _ _) _); refine Sat.notN rfl ?_)
  | ((with_reducible show PI.Sat (PI.oPow _ _ _) _); refine Sat.powI (by decide) ?_)))
def mixB (_ : Cal) : SDen :=
 (sSeq (sAsg (dBin oMod (dArgs bInt (aCons (dBin oAdd (dBin oMul (dVar 0) (dC (.int 6364136223846793005))) (dC (.int 1442695040888963407))) aNil)) (dC (.int 18446744073709551616))) (gNm 0))
 (sRet (dBin oMod (dArgs bInt (aCons (dBin oAdd (dBin oDiv (dBin oMul (dVar 0) (dVar 0)) (dC (.int 4294967296))) (dBin oMul (dVar 0) (dC (.int 69621)))) aNil)) (dC (.int 18446744073709551557)))))
def tape1B (_ : Cal) : SDen :=
 (sRet (dLst (aCons (dArgs bList (aCons (dVar 0) aNil)) (aCons (dC (.int 0)) (aCons (dC (.int 0)) (aCons (dC (.int 1)) (aCons (dVar 1) aNil)))))))
def take1B (k : Nat) (c : Cal) : SDen :=
 (sIf (tV (dBin cLt (dBin oIx (dVar 0) (dC (.int 1))) (dArgs bLen (aCons (dBin oIx (dVar 0) (dC (.int 0))) aNil))))
 (sSeq (sAsg (dBin oIx (dBin oIx (dVar 0) (dC (.int 0))) (dBin oIx (dVar 0) (dC (.int 1)))) (gNm 2))
 (sSeq (sAsg (dIf (tV (dBin cGe (dVar 2) (dC (.int 0)))) (dBin oMul (dC (.int 2)) (dVar 2)) (dBin oSub (dBin oMul (dUn oNeg (dC (.int 2))) (dVar 2)) (dC (.int 1)))) (gNm 2))
 (sSeq (sAsg (dBin oAdd (dBin oIx (dVar 0) (dC (.int 1))) (dC (.int 1))) (gSb (dVar 0) (dC (.int 1))))
 (sSeq (sAsg (dCallN c k 1 (aCons (dBin oAdd (dBin oIx (dVar 0) (dC (.int 3))) (dVar 2)) aNil)) (gSb (dVar 0) (dC (.int 3))))
 (sAsg (dIf (tV (dBin cGe (dVar 2) (dBin oPow (dC (.int 10)) (dC (.int 18))))) (dVar 2) (dCallN c k 1 (aCons (dCallN c k 1 (aCons (dVar 2) aNil)) aNil))) (gSb (dVar 0) (dC (.int 2))))))))
 (sSeq (sAsg (dCallN c k 1 (aCons (dBin oAdd (dBin oIx (dVar 0) (dC (.int 3))) (dC (.int 1))) aNil)) (gSb (dVar 0) (dC (.int 3))))
 (sAsg (dBin oIx (dVar 0) (dC (.int 3))) (gSb (dVar 0) (dC (.int 2))))))
def takeB (k : Nat) (c : Cal) : SDen :=
 (sSeq (sIf (tV (dBin cLt (dBin oIx (dVar 0) (dC (.int 2))) (dVar 1)))
 (take1B k c)
 sNil)
 (sSeq (sAsg (dBin oMod (dArgs bInt (aCons (dBin oIx (dVar 0) (dC (.int 2))) aNil)) (dVar 1)) (gNm 3))
 (sSeq (sAsg (dBin oDiv (dBin oIx (dVar 0) (dC (.int 2))) (dVar 1)) (gSb (dVar 0) (dC (.int 2))))
 (sRet (dVar 3)))))
def Bits (z : Int) : Prop := z.natAbs.log2 < 10000000
/-- the tape's five -/
def TapeAt (h : Hh) (xs : List Int) (a b c : Int) (bu : D) : Prop :=
  h[0]? = some (.lst (xs.map .int)) ∧ h[1]? = some (.lst [.ref 0, .int a, .int b, .int c, bu]) ∧ (∀ z ∈ xs, z.natAbs.log2 < 1048576) ∧ 0 ≤ a ∧ 0 ≤ b ∧ 0 ≤ c ∧ c < 2 ^ 64
/-- the tape stands -/
def TT (h : Hh) : Prop := ∃ xs a b c bu, TapeAt h xs a b c bu
/-- what is not the tape is as it was -/
def Keep (h h' : Hh) : Prop := h.length ≤ h'.length ∧ ∀ i, 2 ≤ i → i < h.length → h'[i]? = h[i]?
theorem Keep.refl (h : Hh) : Keep h h := ⟨Nat.le_refl _, fun _ _ _ => rfl⟩
theorem Keep.trans {h h1 h2 : Hh} (a : Keep h h1) (b : Keep h1 h2) : Keep h h2 := ⟨Nat.le_trans a.1 b.1, fun i h2 hi => (b.2 i h2 (Nat.lt_of_lt_of_le hi a.1)).trans (a.2 i h2 hi)⟩
theorem Keep.push {h : Hh} {o : Ob} : Keep h (h ++ [o]) := ⟨by simp, fun i _ hi => List.getElem?_append_left hi⟩
theorem Keep.set {h h' : Hh} {n : Nat} {o : Ob} (a : Keep h h') (hn : h.length ≤ n) : Keep h (h'.set n o) := ⟨by simpa using a.1, fun i h2 hi => by
  rw [List.getElem?_set_ne (by omega)]
  exact a.2 i h2 hi⟩
theorem Keep.set1 {h h' : Hh} {o : Ob} (a : Keep h h') : Keep h (h'.set 1 o) := ⟨by simpa using a.1, fun i h2 hi => by
  rw [List.getElem?_set_ne (by omega)]
  exact a.2 i h2 hi⟩
theorem Keep.at {h h' : Hh} {n : Nat} {o : Ob} (a : Keep h h') (hn : 2 ≤ n) (e : h[n]? = some o) : h'[n]? = some o := by
  rw [a.2 n hn (List.getElem?_eq_some_iff.mp e).1]
  exact e
theorem TT.len {h : Hh} (t : TT h) : 2 ≤ h.length := by
  obtain ⟨xs, a, b, c, bu, _, h1, _⟩ := t
  exact lt_of_at h1
theorem TT.push {h : Hh} {o : Ob} (t : TT h) : TT (h ++ [o]) := by
  have hl := t.len
  obtain ⟨xs, a, b, c, bu, h0, h1, r⟩ := t
  exact ⟨xs, a, b, c, bu, by rw [List.getElem?_append_left (by omega)]; exact h0, by rw [List.getElem?_append_left (by omega)]; exact h1, r⟩
theorem TT.set {h : Hh} {n : Nat} {o : Ob} (t : TT h) (hn : 2 ≤ n) : TT (h.set n o) := by
  obtain ⟨xs, a, b, c, bu, h0, h1, r⟩ := t
  exact ⟨xs, a, b, c, bu, by rw [List.getElem?_set_ne (by omega)]; exact h0, by rw [List.getElem?_set_ne (by omega)]; exact h1, r⟩
theorem Sat.start11 {T : Nat → Df} {k f : Nat} {b : Cal → SDen} {d0 : D} {h : Hh} {Q : D → Hh → Prop} (hT : T k = ⟨1, 1, b⟩) (s : Sat (b (sem T f) [some d0] h) (retK Q)) : Sat (sem T (f + 1) k [d0] h) Q := .start hT rfl s
theorem Sat.start22 {T : Nat → Df} {k f : Nat} {b : Cal → SDen} {d0 d1 : D} {h : Hh} {Q : D → Hh → Prop} (hT : T k = ⟨2, 2, b⟩) (s : Sat (b (sem T f) [some d0, some d1] h) (retK Q)) : Sat (sem T (f + 1) k [d0, d1] h) Q := .start hT rfl s
theorem mix_ok {T : Nat → Df} {k f : Nat} (hT : T k = ⟨1, 1, mixB⟩) {h : Hh} {x : Int} (hx : Bits x) : Sat (sem T (f + 1) k [.int x] h) fun r h' => h' = h ∧ ∃ d : Int, r = .int d ∧ 0 ≤ d ∧ d < 2 ^ 64 := by
  refine .start11 hT ?_
  unfold mixB
  repeat walk_at "pi"
  have hx : x.natAbs.log2 < 10000000 := hx
  refine Sat.mulI (mulOk_of hx (b := 64) (by decide) (by decide)) ?_
  repeat walk_at "pi"
  refine Sat.modI (by decide) ?_
  repeat walk_at "pi"
  have m0 := fmod_bd (x := x * 6364136223846793005 + 1442695040888963407) (m := 18446744073709551616) (by decide)
  have b0 := nat_log_lt (k := 64) m0.1 m0.2 (by decide)
  refine Sat.mulI (mulOk_of b0 b0 (by decide)) ?_
  repeat walk_at "pi"
  refine Sat.divI (by decide) ?_
  repeat walk_at "pi"
  refine Sat.mulI (mulOk_of b0 (b := 64) (by decide) (by decide)) ?_
  repeat walk_at "pi"
  refine Sat.modI (by decide) ?_
  have e64 : (2 : Int) ^ 64 = 18446744073709551616 := by decide
  refine ⟨rfl, _, rfl, Int.fmod_nonneg_of_pos _ (by decide), ?_⟩
  have := Int.fmod_lt_of_pos ((((x * 6364136223846793005 + 1442695040888963407).fmod 18446744073709551616 * (x * 6364136223846793005 + 1442695040888963407).fmod 18446744073709551616).fdiv 4294967296 + (x * 6364136223846793005 + 1442695040888963407).fmod 18446744073709551616 * 69621)) (show (0 : Int) < 18446744073709551557 by decide)
  omega
theorem tape1_ok {T : Nat → Df} {k f : Nat} (hT : T k = ⟨2, 2, tape1B⟩) {ns : List Int} {bu : D} (hb : ∀ z ∈ ns, z.natAbs.log2 < 1048576) : Sat (sem T (f + 1) k [.rl (ns.map .int), bu] []) fun r h' => r = .ref 1 ∧ TT h' ∧ h'.length = 2 := by
  refine .start22 hT ?_
  unfold tape1B
  repeat walk_at "pi"
  exact ⟨rfl, ⟨ns, 0, 0, 1, bu, rfl, rfl, hb, by decide, by decide, by decide, by decide⟩, rfl⟩
theorem take1_ok {T : Nat → Df} {k f : Nat} (hT : T k = ⟨1, 1, mixB⟩) {h : Hh} {m : D} (t : TT h) : Sat (take1B k (sem T (f + 1)) [some (.ref 1), some m, none, none] h) fun z h' => ∃ v, z = .nx [some (.ref 1), some m, v, none] ∧ TT h' ∧ Keep h h' ∧ h'.length = h.length := by
  obtain ⟨xs, a, b, c, bu, h0, h1, hb, ha0, hb0, hc0, hc1⟩ := t
  have e64 : (2 : Int) ^ 64 = 18446744073709551616 := by decide
  have bc : c.natAbs.log2 < 64 := nat_log_lt hc0 hc1 (by decide)
  unfold take1B
  repeat walk_at "pi"
  refine Sat.ixL h1 (z := .int a) rfl ?_
  repeat walk_at "pi"
  refine Sat.ixL h1 (z := .ref 0) rfl ?_
  repeat walk_at "pi"
  refine Sat.lenL h0 ?_
  repeat walk_at "pi"
  refine ifK.d (fun hl => ?_) fun hl => ?_
  · repeat walk_at "pi"
    refine Sat.ixL h1 (z := .ref 0) rfl ?_
    repeat walk_at "pi"
    refine Sat.ixL h1 (z := .int a) rfl ?_
    obtain ⟨x, e1, e2⟩ := atIx_int ha0 hl
    refine Sat.ixL h0 e1 ?_
    rw [List.getElem?_map, Option.map_eq_some_iff] at e2
    obtain ⟨y, hy, rfl⟩ := e2
    have by_ := hb y (List.mem_of_getElem? hy)
    repeat walk_at "pi"
    have rest : ∀ z : Int, 0 ≤ z → z.natAbs < 2 ^ 1048580 → Sat (sSeq (sAsg (dBin oAdd (dBin oIx (dVar 0) (dC (.int 1))) (dC (.int 1))) (gSb (dVar 0) (dC (.int 1))))
       (sSeq (sAsg (dCallN (sem T (f + 1)) k 1 (aCons (dBin oAdd (dBin oIx (dVar 0) (dC (.int 3))) (dVar 2)) aNil)) (gSb (dVar 0) (dC (.int 3))))
       (sAsg (dIf (tV (dBin cGe (dVar 2) (dBin oPow (dC (.int 10)) (dC (.int 18))))) (dVar 2) (dCallN (sem T (f + 1)) k 1 (aCons (dCallN (sem T (f + 1)) k 1 (aCons (dVar 2) aNil)) aNil))) (gSb (dVar 0) (dC (.int 2))))) [some (.ref 1), some m, some (.int z), none] h)
       fun q h' => ∃ v, q = .nx [some (.ref 1), some m, v, none] ∧ TT h' ∧ Keep h h' ∧ h'.length = h.length := by
      intro z hz0 hz1
      have bz : z.natAbs.log2 < 1048580 := log_lt hz1 (by decide)
      have bz2 : (c + z).natAbs.log2 < 10000000 := by
        have q : (c + z).natAbs < 2 ^ 1048581 := by
          have q1 : (c + z).natAbs ≤ c.natAbs + z.natAbs := Int.natAbs_add_le _ _
          have q2 : c.natAbs < 2 ^ 64 := by
            have q3 : ((c.natAbs : Nat) : Int) = c := Int.natAbs_of_nonneg hc0
            have q4 : (2 : Nat) ^ 64 = 18446744073709551616 := by decide
            omega
          have q5 : (2 : Nat) ^ 64 ≤ 2 ^ 1048580 := Nat.pow_le_pow_right (by decide) (by decide)
          have q6 : (2 : Nat) ^ 1048581 = 2 ^ 1048580 + 2 ^ 1048580 := by
            rw [show (1048581 : Nat) = 1048580 + 1 from rfl, Nat.pow_succ, Nat.mul_two]
          omega
        have := log_lt q (by decide)
        omega
      repeat walk_at "pi"
      refine Sat.ixL h1 (z := .int a) rfl ?_
      repeat walk_at "pi"
      refine Sat.setL h1 (j := 1) rfl ?_
      have h1' : (h.set 1 (.lst ([D.ref 0, .int a, .int b, .int c, bu].set 1 (.int (a + 1)))))[1]? = some (.lst [D.ref 0, .int (a + 1), .int b, .int c, bu]) := at_set h1
      repeat walk_at "pi"
      refine Sat.ixL h1' (z := .int c) rfl ?_
      repeat walk_at "pi"
      refine (mix_ok (f := f) hT bz2).mono fun r h2 ⟨eh, d, er, d0, d1⟩ => ?_
      subst eh er
      repeat walk_at "pi"
      refine Sat.setL h1' (j := 3) rfl ?_
      have h1'' : ((h.set 1 (.lst ([D.ref 0, .int a, .int b, .int c, bu].set 1 (.int (a + 1))))).set 1 (.lst ([D.ref 0, .int (a + 1), .int b, .int c, bu].set 3 (.int d))))[1]? = some (.lst [D.ref 0, .int (a + 1), .int b, .int d, bu]) := at_set h1'
      repeat walk_at "pi"
      have fin : ∀ e : Int, 0 ≤ e → TT ((((h.set 1 (.lst ([D.ref 0, .int a, .int b, .int c, bu].set 1 (.int (a + 1))))).set 1 (.lst ([D.ref 0, .int (a + 1), .int b, .int c, bu].set 3 (.int d))))).set 1 (.lst ([D.ref 0, .int (a + 1), .int b, .int d, bu].set 2 (.int e)))) := fun e he =>
        ⟨xs, a + 1, e, d, bu, by simp only [List.getElem?_set_ne (show 1 ≠ 0 by decide)]; exact h0, at_set h1'', hb, by omega, he, d0, d1⟩
      refine ifK.d (fun cg => ?_) fun cg => ?_
      · repeat walk_at "pi"
        refine Sat.setL h1'' (j := 2) rfl ?_
        exact ⟨_, rfl, fin _ hz0, ((Keep.refl h).set1.set1).set1, by simp⟩
      · repeat walk_at "pi"
        refine (mix_ok (f := f) hT (show Bits z by unfold Bits; omega)).mono fun r h2 ⟨eh, d2, er, d20, d21⟩ => ?_
        subst eh er
        repeat walk_at "pi"
        refine (mix_ok (f := f) hT (show Bits d2 from Nat.lt_trans (nat_log_lt d20 d21 (by decide)) (by decide))).mono fun r h2 ⟨eh, d3, er, d30, d31⟩ => ?_
        subst eh er
        repeat walk_at "pi"
        refine Sat.setL h1'' (j := 2) rfl ?_
        exact ⟨_, rfl, fin _ d30, ((Keep.refl h).set1.set1).set1, by simp⟩
    have hy2 : y.natAbs < 2 ^ 1048576 := by
      by_cases e : y.natAbs = 0
      · rw [e]
        exact Nat.pow_pos (by decide)
      · exact (Nat.log2_lt e).mp by_
    have p76 : (2 : Nat) ^ 1048580 = 16 * 2 ^ 1048576 := by
      rw [show (1048580 : Nat) = 4 + 1048576 from rfl, Nat.pow_add]
    refine ifK.d (fun cg => ?_) fun cg => ?_
    · repeat walk_at "pi"
      refine Sat.mulI (mulOk_of (a := 64) (by decide) by_ (by decide)) ?_
      walk_at "pi"
      exact rest _ (by omega) (by omega)
    · repeat walk_at "pi"
      refine Sat.mulI (mulOk_of (a := 64) (by decide) by_ (by decide)) ?_
      walk_at "pi"
      walk_at "pi"
      walk_at "pi"
      exact rest _ (by omega) (by omega)
  · repeat walk_at "pi"
    refine Sat.ixL h1 (z := .int c) rfl ?_
    repeat walk_at "pi"
    refine (mix_ok (f := f) hT (show Bits (c + 1) from by
      have := nat_log_lt (x := c + 1) (k := 65) (by omega) (by
        have : (2 : Int) ^ 65 = 36893488147419103232 := by decide
        omega) (by decide)
      unfold Bits
      omega)).mono fun r h2 ⟨eh, d, er, d0, d1⟩ => ?_
    subst eh er
    repeat walk_at "pi"
    refine Sat.setL h1 (j := 3) rfl ?_
    have h1' : (h2.set 1 (.lst ([D.ref 0, .int a, .int b, .int c, bu].set 3 (.int d))))[1]? = some (.lst [D.ref 0, .int a, .int b, .int d, bu]) := at_set h1
    repeat walk_at "pi"
    refine Sat.ixL h1' (z := .int d) rfl ?_
    repeat walk_at "pi"
    refine Sat.setL h1' (j := 2) rfl ?_
    exact ⟨_, rfl, ⟨xs, a, d, d, bu, by simp only [List.getElem?_set_ne (show 1 ≠ 0 by decide)]; exact h0, at_set h1', hb, ha0, d0, d0, d1⟩, ((Keep.refl h2).set1).set1, by simp⟩
theorem take_ok {T : Nat → Df} {kt k f : Nat} (hK : T kt = ⟨4, 2, takeB k⟩) (hT : T k = ⟨1, 1, mixB⟩) {h : Hh} {m : Int} (t : TT h) (hm : 0 < m) (hm2 : m.natAbs.log2 < 8000) :
    Sat (sem T (f + 2) kt [.ref 1, .int m] h) fun r h' => TT h' ∧ Keep h h' ∧ h'.length = h.length ∧ ∃ d : Int, r = .int d ∧ 0 ≤ d ∧ d < m := by
  refine .start2 hK ?_
  unfold takeB
  walk_at "pi"
  refine Sat.mono (P := fun z h' => ∃ v, z = .nx [some (.ref 1), some (.int m), v, none] ∧ TT h' ∧ Keep h h' ∧ h'.length = h.length) ?_ ?_
  · have t' := t
    obtain ⟨xs, a, b, c, bu, h0, h1, r⟩ := t
    repeat walk_at "pi"
    refine Sat.ixL h1 (z := .int b) rfl ?_
    repeat walk_at "pi"
    refine ifK.d (fun _ => take1_ok hT t') fun _ => ?_
    repeat walk_at "pi"
    exact ⟨_, rfl, t', Keep.refl h, rfl⟩
  · intro z h' ⟨v, ez, t', kp, hl⟩
    subst ez
    obtain ⟨xs, a, b, c, bu, h0, h1, hb, ha0, hb0, hc0, hc1⟩ := t'
    repeat walk_at "pi"
    refine Sat.ixL h1 (z := .int b) rfl ?_
    repeat walk_at "pi"
    refine Sat.modI (by omega) ?_
    repeat walk_at "pi"
    refine Sat.ixL h1 (z := .int b) rfl ?_
    repeat walk_at "pi"
    refine Sat.divI ⟨by omega, hm2⟩ ?_
    repeat walk_at "pi"
    refine Sat.setL h1 (j := 2) rfl ?_
    repeat walk_at "pi"
    refine ⟨⟨xs, a, b.fdiv m, c, bu, by rw [List.getElem?_set_ne (by decide)]; exact h0, at_set h1, hb, ha0, Int.fdiv_nonneg hb0 (by omega), hc0, hc1⟩, kp.set1, by simpa using hl, _, rfl, Int.fmod_nonneg_of_pos _ hm, Int.fmod_lt_of_pos _ hm⟩
end PI
/-! ## PiV -/
set_option Elab.async false
set_option linter.all false
set_option maxRecDepth 100000
set_option maxHeartbeats 1000000
set_option autoImplicit false
/-! PI, helpers: the values that the laws of values draw. -/
namespace PI
local macro_rules | `(tactic| walk_at "pi") => `(tactic| (
  first
  | (with_reducible refine PI.red ?_)
  | ((with_reducible show PI.Sat (PI.dVar _ _ _) _); refine Sat.var rfl ?_)
  | ((with_reducible show PI.Sat (PI.sAug _ _ _ _ _) _); refine Sat.aug rfl ?_)
  | ((with_reducible show PI.npK _ _ _); refine npK.mk rfl ?_)
  | ((with_reducible show PI.szK _ _); refine szK.mk (by simp only [List.length_cons, List.length_nil]; decide) ?_)
  | ((with_reducible show PI.isaK _ _ _ _); refine isaK.mk rfl ?_)
  | ((with_reducible show PI.ifK _ _ _); first | (refine ifK.t (by rfl) ?_) | (refine ifK.f (by rfl) ?_))
  | ((with_reducible show PI.Sat (PI.gTp _ _ _ _ _) _); refine Sat.gTp rfl ?_)
  | ((with_reducible show PI.Sat (PI.cIsB _ _ _) _); refine Sat.isB rfl ?_)
  | ((with_reducible show PI.Sat (PI.cNotB _ _ _) _); refine Sat.notB rfl ?_)
  | ((with_reducible show PI.Sat (PI.cIn _ (PI.D.tup _) _) _); refine Sat.inT rfl ?_)
  | ((with_reducible show PI.Sat (PI.cNin _ (PI.D.tup _) _) _); refine Sat.ninT rfl ?_)
  | ((with_reducible show PI.Sat (PI.cIsN _ _) _); refine Sat.isN rfl ?_)
  | ((with_reducible show PI.Sat (PI.cNotN _ _) _); refine Sat.notN rfl ?_)
  | ((with_reducible show PI.Sat (PI.oPow _ _ _) _); refine Sat.powI (by decide) ?_)))
def t_int : List Nat := [105, 110, 116]
def t_ref : List Nat := [114, 101, 102]
def t_con : List Nat := [99, 111, 110]
def t_tuple : List Nat := [116, 117, 112, 108, 101]
def t_fun : List Nat := [102, 117, 110]
def t_exn : List Nat := [101, 120, 110]
def t_packet : List Nat := [112, 97, 99, 107, 101, 116]
def t_record : List Nat := [114, 101, 99, 111, 114, 100]
inductive Vl where
  | int (i : Int) | ref (i : Int) | con0 (i : Int) (nm : List Nat) | con1 (i : Int) (nm : List Nat) (v : Vl) | tup (vs : List Vl) | fn | exn (i : Int) (nm : List Nat)
  | pkt0 (i : Int) (nm : List Nat) | pkt1 (i : Int) (nm : List Nat) (v : Vl) | rec_ (fs : List (List Nat)) (vs : List Vl)
mutual
def Vl.enc : Vl → D
  | .int i => .tup [.str t_int, .int i]
  | .ref i => .tup [.str t_ref, .int i]
  | .con0 i nm => .tup [.str t_con, .int i, .str nm, .non]
  | .con1 i nm v => .tup [.str t_con, .int i, .str nm, v.enc]
  | .tup vs => .tup [.str t_tuple, .tup (Vl.encL vs)]
  | .fn => .tup [.str t_fun, .str [120], .tup [.str [118, 97, 114], .str [120]], .non]
  | .exn i nm => .tup [.str t_exn, .int i, .str nm]
  | .pkt0 i nm => .tup [.str t_packet, .int i, .str nm, .non]
  | .pkt1 i nm v => .tup [.str t_packet, .int i, .str nm, v.enc]
  | .rec_ fs vs => .tup [.str t_record, .tup (Vl.encF fs vs)]
def Vl.encL : List Vl → List D
  | [] => []
  | v :: vs => v.enc :: Vl.encL vs
def Vl.encF : List (List Nat) → List Vl → List D
  | f :: fs, v :: vs => .tup [.str f, v.enc] :: Vl.encF fs vs
  | _, _ => []
end
mutual
def Vl.dep : Vl → Nat
  | .con1 _ _ v => v.dep + 1
  | .pkt1 _ _ v => v.dep + 1
  | .tup vs => Vl.depL vs + 1
  | .rec_ _ vs => Vl.depL vs + 1
  | _ => 0
def Vl.depL : List Vl → Nat
  | [] => 0
  | v :: vs => max v.dep (Vl.depL vs)
end
mutual
/-- how many values are in it -/
def Vl.sz : Vl → Nat
  | .con1 _ _ v => v.sz + 1
  | .pkt1 _ _ v => v.sz + 1
  | .tup vs => Vl.szL vs + 1
  | .rec_ _ vs => Vl.szL vs + 1
  | _ => 1
def Vl.szL : List Vl → Nat
  | [] => 0
  | v :: vs => v.sz + Vl.szL vs
end
mutual
/-- no row of more than six -/
def Vl.slim : Vl → Bool
  | .con1 _ _ v => v.slim
  | .pkt1 _ _ v => v.slim
  | .tup vs => decide (vs.length ≤ 6) && Vl.slimL vs
  | .rec_ fs vs => decide (vs.length ≤ 6) && Vl.slimL vs
  | _ => true
def Vl.slimL : List Vl → Bool
  | [] => true
  | v :: vs => v.slim && Vl.slimL vs
end
theorem encL_map (vs : List Vl) : Vl.encL vs = vs.map Vl.enc := by
  induction vs with
  | nil => rfl
  | cons v vs ih => rw [Vl.encL, ih, List.map_cons]
theorem encL_append (vs ws : List Vl) : Vl.encL (vs ++ ws) = Vl.encL vs ++ Vl.encL ws := by rw [encL_map, encL_map, encL_map, List.map_append]
theorem depL_append (vs ws : List Vl) : Vl.depL (vs ++ ws) = max (Vl.depL vs) (Vl.depL ws) := by
  induction vs with
  | nil => simp [Vl.depL]
  | cons v vs ih => simp only [List.cons_append, Vl.depL, ih]; omega
theorem szL_append (vs ws : List Vl) : Vl.szL (vs ++ ws) = Vl.szL vs + Vl.szL ws := by
  induction vs with
  | nil => simp [Vl.szL]
  | cons v vs ih => simp only [List.cons_append, Vl.szL, ih]; omega
theorem Vl.sz_pos (v : Vl) : 0 < v.sz := by cases v <;> simp [Vl.sz]
theorem slimL_append (vs ws : List Vl) : Vl.slimL (vs ++ ws) = (Vl.slimL vs && Vl.slimL ws) := by
  induction vs with
  | nil => simp [Vl.slimL]
  | cons v vs ih => simp only [List.cons_append, Vl.slimL, ih, Bool.and_assoc]
def boolB (_ : Cal) : SDen :=
 (sRet (dTup (aCons (dC (.str t_con)) (aCons (dVar 0) (aCons (dBin oIx (dLst (aCons (dC (.str [70, 97, 108, 115, 101])) (aCons (dC (.str [84, 114, 117, 101])) aNil))) (dVar 0)) (aCons (dC .non) aNil))))))
def valueB (kt kb ks : Nat) (c : Cal) : SDen :=
 (sSeq (sAsg (dIf (tV (dBin cGt (dVar 1) (dC (.int 0)))) (dCallN c kt 2 (aCons (dVar 0) (aCons (dC (.int 9)) aNil))) (dCallN c kt 2 (aCons (dVar 0) (aCons (dC (.int 4)) aNil)))) (gNm 2))
 (sSeq (sIf (tV (dBin cEq (dVar 2) (dC (.int 0))))
 (sRet (dTup (aCons (dC (.str t_int)) (aCons (dBin oSub (dCallN c kt 2 (aCons (dVar 0) (aCons (dC (.int 3)) aNil))) (dC (.int 1))) aNil))))
 sNil)
 (sSeq (sIf (tV (dBin cEq (dVar 2) (dC (.int 1))))
 (sRet (dCallN c kb 1 (aCons (dCallN c kt 2 (aCons (dVar 0) (aCons (dC (.int 2)) aNil))) aNil)))
 sNil)
 (sSeq (sIf (tV (dBin cEq (dVar 2) (dC (.int 2))))
 (sRet (dTup (aCons (dC (.str t_ref)) (aCons (dCallN c kt 2 (aCons (dVar 0) (aCons (dC (.int 3)) aNil))) aNil))))
 sNil)
 (sSeq (sIf (tV (dBin cEq (dVar 2) (dC (.int 3))))
 (sRet (dBin oIx (dLst (aCons (dTup (aCons (dC (.str t_tuple)) (aCons (dTup aNil) aNil))) (aCons (dTup (aCons (dC (.str t_fun)) (aCons (dC (.str [120])) (aCons (dTup (aCons (dC (.str [118, 97, 114])) (aCons (dC (.str [120])) aNil))) (aCons (dC .non) aNil))))) (aCons (dTup (aCons (dC (.str t_exn)) (aCons (dC (.int 4)) (aCons (dC (.str [69])) aNil)))) (aCons (dTup (aCons (dC (.str t_con)) (aCons (dC (.int 0)) (aCons (dC (.str [78, 105, 108])) (aCons (dC .non) aNil))))) aNil))))) (dCallN c kt 2 (aCons (dVar 0) (aCons (dC (.int 4)) aNil)))))
 sNil)
 (sSeq (sIf (tV (dBin cEq (dVar 2) (dC (.int 4))))
 (sRet (dTup (aCons (dC (.str t_con)) (aCons (dC (.int 1)) (aCons (dC (.str [67, 111, 110, 115])) (aCons (dTup (aCons (dC (.str t_tuple)) (aCons (dTup (aCons (dCallN c ks 2 (aCons (dVar 0) (aCons (dBin oSub (dVar 1) (dC (.int 1))) aNil))) (aCons (dCallN c ks 2 (aCons (dVar 0) (aCons (dBin oSub (dVar 1) (dC (.int 1))) aNil))) aNil))) aNil))) aNil))))))
 sNil)
 (sSeq (sIf (tV (dBin cEq (dVar 2) (dC (.int 5))))
 (sRet (dTup (aCons (dC (.str t_con)) (aCons (dC (.int 2)) (aCons (dC (.str [83, 111, 109, 101])) (aCons (dCallN c ks 2 (aCons (dVar 0) (aCons (dBin oSub (dVar 1) (dC (.int 1))) aNil))) aNil))))))
 sNil)
 (sSeq (sIf (tV (dBin cEq (dVar 2) (dC (.int 6))))
 (sSeq (sAsg (dIf (tV (dBin cEq (dCallN c kt 2 (aCons (dVar 0) (aCons (dC (.int 2)) aNil))) (dC (.int 0)))) (dC .non) (dCallN c ks 2 (aCons (dVar 0) (aCons (dBin oSub (dVar 1) (dC (.int 1))) aNil)))) (gNm 3))
 (sRet (dTup (aCons (dC (.str t_packet)) (aCons (dBin oAdd (dC (.int 4)) (dCallN c kt 2 (aCons (dVar 0) (aCons (dC (.int 2)) aNil)))) (aCons (dC (.str [69])) (aCons (dVar 3) aNil)))))))
 sNil)
 (sSeq (sIf (tV (dBin cEq (dVar 2) (dC (.int 7))))
 (sSeq (sAsg (dLst (aCons (dTup (aCons (dC (.str [109])) (aCons (dCallN c ks 2 (aCons (dVar 0) (aCons (dBin oSub (dVar 1) (dC (.int 1))) aNil))) aNil))) (aCons (dTup (aCons (dC (.str [110])) (aCons (dCallN c ks 2 (aCons (dVar 0) (aCons (dBin oSub (dVar 1) (dC (.int 1))) aNil))) aNil))) aNil))) (gNm 4))
 (sRet (dTup (aCons (dC (.str t_record)) (aCons (dArgs bTuple (aCons (dSl (dVar 4) pNone (pSome (dCallN c kt 2 (aCons (dVar 0) (aCons (dC (.int 3)) aNil))))) aNil)) aNil)))))
 sNil)
 (sSeq (sAsg (dBin oIx (dLst (aCons (dC (.int 2)) (aCons (dC (.int 2)) (aCons (dC (.int 3)) (aCons (dC (.int 6)) aNil))))) (dCallN c kt 2 (aCons (dVar 0) (aCons (dC (.int 4)) aNil)))) (gNm 5))
 (sRet (dTup (aCons (dC (.str t_tuple)) (aCons (dArgs fTup (aComp (wRng1 (dVar 5)) [6] (gNm 6) PI.tYes (dCallN c ks 2 (aCons (dVar 0) (aCons (dBin oSub (dVar 1) (dC (.int 1))) aNil))))) aNil))))))))))))))
/-- what a call of take leaves -/
def Took (h : Hh) (m : Int) (r : D) (h' : Hh) : Prop := TT h' ∧ Keep h h' ∧ ∃ d : Int, r = .int d ∧ 0 ≤ d ∧ d < m
/-- .. of a drawn value of depth n, of z values -/
def DrawnV (n z : Nat) (h : Hh) (r : D) (h' : Hh) : Prop := TT h' ∧ Keep h h' ∧ ∃ v : Vl, r = v.enc ∧ v.dep ≤ n ∧ v.slim = true ∧ v.sz ≤ z
theorem Sat.start71 {T : Nat → Df} {k f : Nat} {b : Cal → SDen} {d0 d1 : D} {h : Hh} {Q : D → Hh → Prop} (hT : T k = ⟨7, 2, b⟩) (s : Sat (b (sem T f) [some d0, some d1, none, none, none, none, none] h) (retK Q)) : Sat (sem T (f + 1) k [d0, d1] h) Q := .start hT rfl s
/-- laws that draw values -/
structure ValT (T : Nat → Df) (km kt kb ks : Nat) : Prop where
  mix : T km = ⟨1, 1, mixB⟩
  take : T kt = ⟨4, 2, takeB km⟩
  bool : T kb = ⟨1, 1, boolB⟩
  val : T ks = ⟨7, 2, valueB kt kb ks⟩
section
variable {T : Nat → Df} {km kt kb ks f : Nat}
theorem ValT.tk (V : ValT T km kt kb ks) {h : Hh} {m : Int} (t : TT h) (hm : 0 < m) (hm2 : m.natAbs.log2 < 8000 := by decide) : Sat (sem T (f + 2) kt [.ref 1, .int m] h) (Took h m) := (take_ok V.take V.mix t hm hm2).mono fun r h' ⟨a, b, _, c⟩ => ⟨a, b, c⟩
theorem bool_ok (V : ValT T km kt kb ks) {h : Hh} {d : Int} (t : TT h) (h0 : 0 ≤ d) (h1 : d < 2) : Sat (sem T (f + 1) kb [.int d] h) (DrawnV 0 1 h) := by
  refine .start11 V.bool ?_
  unfold boolB
  repeat walk_at "pi"
  refine Sat.ixL' at_push h0 (by simpa using h1) fun x hx => ?_
  obtain ⟨s, rfl⟩ : ∃ s, x = .str s := by
    simp only [List.mem_cons, List.not_mem_nil, or_false] at hx
    rcases hx with rfl | rfl <;> exact ⟨_, rfl⟩
  repeat walk_at "pi"
  exact ⟨t.push, Keep.push, .con0 d s, rfl, Nat.le_refl _, rfl, Nat.le_refl _⟩
theorem DrawnV.mono {n m z z' : Nat} {h h0 h1 : Hh} {r : D} (hk : Keep h0 h) (hn : n ≤ m) (hz : z ≤ z') (x : DrawnV n z h r h1) : DrawnV m z' h0 r h1 := by
  obtain ⟨a, b, v, c, d, e, f⟩ := x
  exact ⟨a, hk.trans b, v, c, Nat.le_trans d hn, e, Nat.le_trans f hz⟩
theorem value_step {g n m z z' : Nat} (V : ValT T km kt kb ks) {h : Hh} {level : Int} (t : TT h) (ih : 0 < level → ∀ h, TT h → Sat (sem T (g + 2) ks [.ref 1, .int (level - 1)] h) (DrawnV n z h)) (hm : 1 ≤ m ∧ 1 ≤ z') (hnm : 0 < level → n + 2 ≤ m ∧ 6 * z + 1 ≤ z' ∧ 2 * z + 2 ≤ z') :
    Sat (sem T (g + 3) ks [.ref 1, .int level] h) (DrawnV m z' h) := by
  refine .start71 V.val ?_
  unfold valueB
  walk_at "pi"
  refine Sat.mono (P := fun f h' => ∃ d : Int, f = .nx [some (.ref 1), some (.int level), some (.int d), none, none, none, none] ∧ TT h' ∧ Keep h h' ∧ 0 ≤ d ∧ (0 < level ∨ d < 4)) ?_ ?_
  · repeat walk_at "pi"
    refine ifK.d (fun hl => ?_) fun hl => ?_
    · repeat walk_at "pi"
      refine (V.tk t (by decide)).mono fun r h1 ⟨t1, k1, d, er, d0, d1⟩ => ?_
      subst er
      repeat walk_at "pi"
      exact ⟨d, rfl, t1, k1, d0, .inl hl⟩
    · repeat walk_at "pi"
      refine (V.tk t (by decide)).mono fun r h1 ⟨t1, k1, d, er, d0, d1⟩ => ?_
      subst er
      repeat walk_at "pi"
      exact ⟨d, rfl, t1, k1, d0, .inr d1⟩
  intro f h1 ⟨d, ef, t1, k1, d0, dl⟩
  subst ef
  repeat walk_at "pi"
  refine ifK.d (fun c0 => ?_) fun c0 => ?_
  · repeat walk_at "pi"
    refine (V.tk t1 (by decide)).mono fun r h2 ⟨t2, k2, d2, er, _, _⟩ => ?_
    subst er
    repeat walk_at "pi"
    exact ⟨t2, k1.trans k2, .int (d2 - 1), rfl, Nat.zero_le _, rfl, hm.2⟩
  repeat walk_at "pi"
  refine ifK.d (fun c1 => ?_) fun c1 => ?_
  · repeat walk_at "pi"
    refine (V.tk t1 (by decide)).mono fun r h2 ⟨t2, k2, d2, er, e0, e1⟩ => ?_
    subst er
    repeat walk_at "pi"
    refine (bool_ok V t2 e0 e1).mono fun r h3 x => ?_
    repeat walk_at "pi"
    exact x.mono (k1.trans k2) (Nat.zero_le _) hm.2
  repeat walk_at "pi"
  refine ifK.d (fun c2 => ?_) fun c2 => ?_
  · repeat walk_at "pi"
    refine (V.tk t1 (by decide)).mono fun r h2 ⟨t2, k2, d2, er, _, _⟩ => ?_
    subst er
    repeat walk_at "pi"
    exact ⟨t2, k1.trans k2, .ref d2, rfl, Nat.zero_le _, rfl, hm.2⟩
  repeat walk_at "pi"
  refine ifK.d (fun c3 => ?_) fun c3 => ?_
  · repeat walk_at "pi"
    refine (V.tk t1.push (by decide)).mono fun r h2 ⟨t2, k2, d2, er, e0, e1⟩ => ?_
    subst er
    refine Sat.ixL' (k2.at t1.len at_push) e0 (by simpa using e1) fun x hx => ?_
    repeat walk_at "pi"
    refine ⟨t2, (k1.trans Keep.push).trans k2, ?_⟩
    simp only [List.mem_cons, List.not_mem_nil, or_false] at hx
    rcases hx with rfl | rfl | rfl | rfl
    · exact ⟨.tup [], rfl, by simp [Vl.dep, Vl.depL]; exact hm.1, rfl, hm.2⟩
    · exact ⟨.fn, rfl, Nat.zero_le _, rfl, hm.2⟩
    · exact ⟨.exn 4 [69], rfl, Nat.zero_le _, rfl, hm.2⟩
    · exact ⟨.con0 0 [78, 105, 108], rfl, Nat.zero_le _, rfl, hm.2⟩
  have hlev : 0 < level := by omega
  have ih := ih hlev
  have hnm := hnm hlev
  repeat walk_at "pi"
  refine ifK.d (fun c4 => ?_) fun c4 => ?_
  · repeat walk_at "pi"
    refine (ih _ t1).mono fun r h2 ⟨t2, k2, v, er, dv, sv, zv⟩ => ?_
    subst er
    repeat walk_at "pi"
    refine (ih _ t2).mono fun r h3 ⟨t3, k3, v2, er, dv2, sv2, zv2⟩ => ?_
    subst er
    repeat walk_at "pi"
    exact ⟨t3, (k1.trans k2).trans k3, .con1 1 [67, 111, 110, 115] (.tup [v, v2]), rfl, by simp [Vl.dep, Vl.depL]; omega, by simp [Vl.slim, Vl.slimL, sv, sv2], by simp [Vl.sz, Vl.szL]; omega⟩
  repeat walk_at "pi"
  refine ifK.d (fun c5 => ?_) fun c5 => ?_
  · repeat walk_at "pi"
    refine (ih _ t1).mono fun r h2 ⟨t2, k2, v, er, dv, sv, zv⟩ => ?_
    subst er
    repeat walk_at "pi"
    exact ⟨t2, k1.trans k2, .con1 2 [83, 111, 109, 101] v, rfl, by simp [Vl.dep]; omega, by simp [Vl.slim, sv], by simp [Vl.sz]; omega⟩
  repeat walk_at "pi"
  refine ifK.d (fun c6 => ?_) fun c6 => ?_
  · repeat walk_at "pi"
    refine (V.tk t1 (by decide)).mono fun r h2 ⟨t2, k2, d2, er, e0, e1⟩ => ?_
    subst er
    repeat walk_at "pi"
    refine ifK.d (fun _ => ?_) fun _ => ?_
    · repeat walk_at "pi"
      refine (V.tk t2 (by decide)).mono fun r h3 ⟨t3, k3, d3, er, _, _⟩ => ?_
      subst er
      repeat walk_at "pi"
      exact ⟨t3, (k1.trans k2).trans k3, .pkt0 (4 + d3) [69], rfl, Nat.zero_le _, rfl, hm.2⟩
    · repeat walk_at "pi"
      refine (ih _ t2).mono fun r h3 ⟨t3, k3, v, er, dv, sv, zv⟩ => ?_
      subst er
      repeat walk_at "pi"
      refine (V.tk t3 (by decide)).mono fun r h4 ⟨t4, k4, d3, er, _, _⟩ => ?_
      subst er
      repeat walk_at "pi"
      exact ⟨t4, ((k1.trans k2).trans k3).trans k4, .pkt1 (4 + d3) [69] v, rfl, by simp [Vl.dep]; omega, by simp [Vl.slim, sv], by simp [Vl.sz]; omega⟩
  repeat walk_at "pi"
  refine ifK.d (fun c7 => ?_) fun c7 => ?_
  · repeat walk_at "pi"
    refine (ih _ t1).mono fun r h2 ⟨t2, k2, v, er, dv, sv, zv⟩ => ?_
    subst er
    repeat walk_at "pi"
    refine (ih _ t2).mono fun r h3 ⟨t3, k3, v2, er, dv2, sv2, zv2⟩ => ?_
    subst er
    repeat walk_at "pi"
    refine (V.tk t3.push (by decide)).mono fun r h4 ⟨t4, k4, d3, er, e0, e1⟩ => ?_
    subst er
    repeat walk_at "pi"
    refine Sat.slL (k4.at t3.len at_push) ?_
    repeat walk_at "pi"
    refine Sat.tupL at_push ?_
    repeat walk_at "pi"
    refine ⟨t4.push, (((k1.trans k2).trans k3).trans Keep.push).trans (k4.trans Keep.push), .rec_ ([[109], [110]].take d3.toNat) ([v, v2].take d3.toNat), ?_, ?_, ?_, ?_⟩
    · have : d3 = 0 ∨ d3 = 1 ∨ d3 = 2 := by omega
      rcases this with rfl | rfl | rfl <;> rfl
    · have : d3 = 0 ∨ d3 = 1 ∨ d3 = 2 := by omega
      rcases this with rfl | rfl | rfl <;> simp [Vl.dep, Vl.depL] <;> omega
    · have : d3 = 0 ∨ d3 = 1 ∨ d3 = 2 := by omega
      rcases this with rfl | rfl | rfl <;> simp [Vl.slim, Vl.slimL, sv, sv2]
    · have : d3 = 0 ∨ d3 = 1 ∨ d3 = 2 := by omega
      rcases this with rfl | rfl | rfl <;> simp [Vl.sz, Vl.szL] <;> omega
  repeat walk_at "pi"
  refine (V.tk t1.push (by decide)).mono fun r h2 ⟨t2, k2, d2, er, e0, e1⟩ => ?_
  subst er
  refine Sat.ixL' (k2.at t1.len at_push) e0 (by simpa using e1) fun x hx => ?_
  obtain ⟨mm, rfl, hmm⟩ : ∃ mm : Nat, x = .int mm ∧ mm ≤ 6 := by
    simp only [List.mem_cons, List.not_mem_nil, or_false] at hx
    rcases hx with rfl | rfl | rfl | rfl
    · exact ⟨2, rfl, by decide⟩
    · exact ⟨2, rfl, by decide⟩
    · exact ⟨3, rfl, by decide⟩
    · exact ⟨6, rfl, by decide⟩
  clear hx
  repeat walk_at "pi"
  refine ⟨⟨by omega, by omega⟩, ?_⟩
  have kk := (k1.trans Keep.push).trans k2
  refine Sat.compIx (fun i acc h' => TT h' ∧ Keep h h' ∧ ∃ vs : List Vl, acc = Vl.encL vs ∧ vs.length = i ∧ Vl.depL vs ≤ n ∧ Vl.slimL vs = true ∧ Vl.szL vs ≤ i * z) ⟨t2, kk, [], rfl, rfl, Nat.zero_le _, rfl, by simp [Vl.szL]⟩ (fun _ _ _ _ => rfl) (fun i d acc h3 hd ⟨t3, k3, vs, ea, hl, dv, sv, zv⟩ => ?_) fun acc h3 ⟨t3, k3, vs, ea, hl, dv, sv, zv⟩ => ?_
  · obtain ⟨hi, rfl⟩ := rng_at hd
    repeat walk_at "pi"
    refine (ih _ t3).mono fun r h4 ⟨t4, k4, v, er, dv2, sv2, zv2⟩ => ?_
    subst er ea
    refine ⟨by rw [encL_map, List.length_map]; unfold SL; omega, t4, k3.trans k4, vs ++ [v], by rw [encL_append]; rfl, by simp [hl], by rw [depL_append]; simp [Vl.depL]; omega, by rw [slimL_append, sv]; simp [Vl.slimL, sv2], by rw [szL_append, Nat.succ_mul]; simp [Vl.szL]; omega⟩
  · rw [rng_len] at hl zv
    subst ea
    repeat walk_at "pi"
    exact ⟨t3, k3, .tup vs, rfl, by simp [Vl.dep]; omega, by simp [Vl.slim, sv]; omega, by
      have h1 : Vl.szL vs ≤ 6 * z := Nat.le_trans zv (Nat.mul_le_mul_right _ (show ((mm : Nat) : Int).toNat ≤ 6 by omega))
      simp [Vl.sz]
      omega⟩
theorem value_ok (V : ValT T km kt kb ks) (k : Nat) : ∀ (n : Nat) {h : Hh}, TT h → Sat (sem T (k + n + 3) ks [.ref 1, .int (n : Nat)] h) (DrawnV (2 * n + 1) (7 ^ n) h)
  | 0, h, t => value_step (n := 0) (z := 0) V t (fun q => absurd q (by decide)) ⟨by omega, by decide⟩ (fun q => absurd q (by decide))
  | n + 1, h, t => value_step (g := k + n + 1) (n := 2 * n + 1) (z := 7 ^ n) V t (fun _ h t => by
      have e : ((n + 1 : Nat) : Int) - 1 = (n : Nat) := by omega
      rw [e]
      exact value_ok V k n t) (by
      have : 0 < 7 ^ (n + 1) := Nat.pow_pos (by decide)
      omega) (fun _ => by
      have : 0 < 7 ^ n := Nat.pow_pos (by decide)
      rw [Nat.pow_succ]
      omega)
end
end PI
/-! ## PiP -/
set_option Elab.async false
set_option linter.all false
set_option maxRecDepth 100000
set_option maxHeartbeats 2000000
set_option autoImplicit false
/-! PI, helpers: kinds, patterns and values that the laws of patterns draw; _law_fit. -/
namespace PI
local macro_rules | `(tactic| walk_at "pi") => `(tactic| (
  first
  | (with_reducible refine PI.red ?_)
  | ((with_reducible show PI.Sat (PI.dVar _ _ _) _); refine Sat.var rfl ?_)
  | ((with_reducible show PI.Sat (PI.sAug _ _ _ _ _) _); refine Sat.aug rfl ?_)
  | ((with_reducible show PI.npK _ _ _); refine npK.mk rfl ?_)
  | ((with_reducible show PI.szK _ _); refine szK.mk (by simp only [List.length_cons, List.length_nil]; decide) ?_)
  | ((with_reducible show PI.isaK _ _ _ _); refine isaK.mk rfl ?_)
  | ((with_reducible show PI.ifK _ _ _); first | (refine ifK.t (by rfl) ?_) | (refine ifK.f (by rfl) ?_))
  | ((with_reducible show PI.Sat (PI.gTp _ _ _ _ _) _); refine Sat.gTp rfl ?_)
  | ((with_reducible show PI.Sat (PI.cIsB _ _ _) _); refine Sat.isB rfl ?_)
  | ((with_reducible show PI.Sat (PI.cNotB _ _ _) _); refine Sat.notB rfl ?_)
  | ((with_reducible show PI.Sat (PI.cIn _ (PI.D.tup _) _) _); refine Sat.inT rfl ?_)
  | ((with_reducible show PI.Sat (PI.cNin _ (PI.D.tup _) _) _); refine Sat.ninT rfl ?_)
  | ((with_reducible show PI.Sat (PI.cIsN _ _) _); refine Sat.isN rfl ?_)
  | ((with_reducible show PI.Sat (PI.cNotN _ _) _); refine Sat.notN rfl ?_)
  | ((with_reducible show PI.Sat (PI.oPow _ _ _) _); refine Sat.powI (by decide) ?_)))
def t_any : List Nat := [97, 110, 121]
def t_var : List Nat := [118, 97, 114]
def t_as : List Nat := [97, 115]
def t_field : List Nat := [102, 105, 101, 108, 100]
def pathsB (_ : Cal) : SDen :=
 (sRet (dLst (aCons (dTup (aCons (dC (.str t_var)) (aCons (dC (.str [112])) aNil))) (aCons (dTup (aCons (dC (.str t_field)) (aCons (dC (.str [113])) (aCons (dTup (aCons (dC (.str t_var)) (aCons (dC (.str [109])) aNil))) aNil)))) (aCons (dTup (aCons (dC (.str t_field)) (aCons (dC (.str [113])) (aCons (dTup (aCons (dC (.str t_field)) (aCons (dC (.str [115])) (aCons (dTup (aCons (dC (.str t_var)) (aCons (dC (.str [109])) aNil))) aNil)))) aNil)))) aNil)))))
def integerB (kt : Nat) (c : Cal) : SDen :=
 (sSeq (sIf (tV (dBin cEq (dCallN c kt 2 (aCons (dVar 0) (aCons (dC (.int 4)) aNil))) (dC (.int 0))))
 (sRet (dBin oIx (dLst (aCons (dUn oNeg (dC (.int 2147483648))) (aCons (dC (.int 2147483647)) (aCons (dC (.int 256)) (aCons (dC (.int 65536)) (aCons (dC (.int 128)) (aCons (dUn oNeg (dC (.int 128))) (aCons (dC (.int 0)) (aCons (dUn oNeg (dC (.int 65536))) aNil))))))))) (dCallN c kt 2 (aCons (dVar 0) (aCons (dC (.int 8)) aNil)))))
 sNil)
 (sRet (dBin oSub (dCallN c kt 2 (aCons (dVar 0) (aCons (dVar 1) aNil))) (dC (.int 1)))))
def kindB (kt kp kk : Nat) (c : Cal) : SDen :=
 (sSeq (sAsg (dIf (tV (dBin cGt (dVar 1) (dC (.int 0)))) (dCallN c kt 2 (aCons (dVar 0) (aCons (dC (.int 5)) aNil))) (dC (.int 0))) (gNm 2))
 (sSeq (sIf (tV (dBin cEq (dVar 2) (dC (.int 0))))
 (sRet (dTup (aCons (dC (.str t_int)) aNil)))
 sNil)
 (sSeq (sIf (tV (dBin cEq (dVar 2) (dC (.int 1))))
 (sSeq (sAsg (dBin oIx (dLst (aCons (dC (.int 0)) (aCons (dC (.int 2)) (aCons (dC (.int 2)) (aCons (dC (.int 3)) aNil))))) (dCallN c kt 2 (aCons (dVar 0) (aCons (dC (.int 4)) aNil)))) (gNm 3))
 (sSeq (sIf (PI.tAnd (tV (dBin cEq (dVar 1) (dC (.int 1)))) (tV (dBin cEq (dCallN c kt 2 (aCons (dVar 0) (aCons (dC (.int 3)) aNil))) (dC (.int 0)))))
 (sAsg (dBin oAdd (dC (.int 4)) (dCallN c kt 2 (aCons (dVar 0) (aCons (dC (.int 3)) aNil)))) (gNm 3))
 sNil)
 (sRet (dTup (aCons (dC (.str t_tuple)) (aCons (dArgs fTup (aComp (wRng1 (dVar 3)) [4] (gNm 4) PI.tYes (dCallN c kk 2 (aCons (dVar 0) (aCons (dBin oSub (dVar 1) (dC (.int 1))) aNil))))) aNil))))))
 sNil)
 (sSeq (sIf (tV (dBin cEq (dVar 2) (dC (.int 2))))
 (sSeq (sAsg (dLst aNil) (gNm 5))
 (sSeq (sFor (wSeq (dCall0 c kp)) (gNm 6)
 (sSeq (sAsg (dC .non) (gNm 7))
 (sSeq (sIf (tV (dBin cEq (dCallN c kt 2 (aCons (dVar 0) (aCons (dC (.int 2)) aNil))) (dC (.int 0))))
 (sAsg (dCallN c kk 2 (aCons (dVar 0) (aCons (dBin oSub (dVar 1) (dC (.int 1))) aNil))) (gNm 7))
 sNil)
 (sExpr (dMeth mAppend (dVar 5) (aCons (dTup (aCons (dVar 6) (aCons (dVar 7) aNil))) aNil))))))
 (sRet (dTup (aCons (dC (.str t_packet)) (aCons (dArgs bTuple (aCons (dVar 5) aNil)) aNil))))))
 sNil)
 (sSeq (sAsg (dLst aNil) (gNm 8))
 (sSeq (sAsg (dLst aNil) (gNm 9))
 (sSeq (sAsg (dBin oAdd (dC (.int 1)) (dCallN c kt 2 (aCons (dVar 0) (aCons (dC (.int 4)) aNil)))) (gNm 3))
 (sSeq (sIf (tV (dBin cEq (dCallN c kt 2 (aCons (dVar 0) (aCons (dC (.int 4)) aNil))) (dC (.int 0))))
 (sAsg (dBin oAdd (dC (.int 1)) (dCallN c kt 2 (aCons (dVar 0) (aCons (dC (.int 12)) aNil)))) (gNm 3))
 sNil)
 (sSeq (sFor (wRng1 (dVar 3)) (gNm 4)
 (sSeq (sAsg (dBin cEq (dCallN c kt 2 (aCons (dVar 0) (aCons (dC (.int 2)) aNil))) (dC (.int 0))) (gNm 10))
 (sSeq (sExpr (dMeth mAppend (dVar 8) (aCons (dTup (aCons (dBin oIx (dC (.str [65, 66, 67, 68, 69, 70, 71, 72, 73, 74, 75, 76])) (dVar 4)) (aCons (dVar 10) aNil))) aNil)))
 (sExpr (dMeth mAppend (dVar 9) (aCons (dIf (tT (dVar 10)) (dCallN c kk 2 (aCons (dVar 0) (aCons (dBin oSub (dVar 1) (dC (.int 1))) aNil))) (dC .non)) aNil))))))
 (sRet (dTup (aCons (dC (.str t_con)) (aCons (dArgs bTuple (aCons (dVar 8) aNil)) (aCons (dArgs bTuple (aCons (dVar 9) aNil)) aNil))))))))))))))
def patternB (kt ki kq : Nat) (c : Cal) : SDen :=
 (sSeq (sAsg (dCallN c kt 2 (aCons (dVar 0) (aCons (dC (.int 8)) aNil))) (gNm 3))
 (sSeq (sIf (tV (dBin cEq (dVar 3) (dC (.int 0))))
 (sRet (dTup (aCons (dC (.str t_any)) aNil)))
 sNil)
 (sSeq (sIf (tV (dBin cEq (dVar 3) (dC (.int 1))))
 (sSeq (sExpr (dMeth mAppend (dVar 2) (aCons (dBin oAdd (dC (.str [118])) (dArgs bStr (aCons (dArgs bLen (aCons (dVar 2) aNil)) aNil))) aNil)))
 (sRet (dTup (aCons (dC (.str t_var)) (aCons (dBin oIx (dVar 2) (dUn oNeg (dC (.int 1)))) aNil)))))
 sNil)
 (sSeq (sIf (PI.tAnd (tV (dBin cEq (dVar 3) (dC (.int 2)))) (tV (dBin cLt (dArgs bLen (aCons (dVar 2) aNil)) (dC (.int 6)))))
 (sSeq (sExpr (dMeth mAppend (dVar 2) (aCons (dBin oAdd (dC (.str [118])) (dArgs bStr (aCons (dArgs bLen (aCons (dVar 2) aNil)) aNil))) aNil)))
 (sSeq (sAsg (dBin oIx (dVar 2) (dUn oNeg (dC (.int 1)))) (gNm 4))
 (sRet (dTup (aCons (dC (.str t_as)) (aCons (dVar 4) (aCons (dCallN c kq 3 (aCons (dVar 0) (aCons (dVar 1) (aCons (dVar 2) aNil)))) aNil)))))))
 sNil)
 (sSeq (sIf (tV (dBin cEq (dBin oIx (dVar 1) (dC (.int 0))) (dC (.str t_int))))
 (sRet (dTup (aCons (dC (.str t_int)) (aCons (dCallN c ki 2 (aCons (dVar 0) (aCons (dC (.int 3)) aNil))) aNil))))
 sNil)
 (sSeq (sIf (tV (dBin cEq (dBin oIx (dVar 1) (dC (.int 0))) (dC (.str t_tuple))))
 (sRet (dTup (aCons (dC (.str t_tuple)) (aCons (dArgs fTup (aComp (wSeq (dBin oIx (dVar 1) (dC (.int 1)))) [8] (gNm 8) PI.tYes (dCallN c kq 3 (aCons (dVar 0) (aCons (dVar 8) (aCons (dVar 2) aNil)))))) aNil))))
 sNil)
 (sSeq (sIf (tV (dBin cEq (dBin oIx (dVar 1) (dC (.int 0))) (dC (.str t_packet))))
 (sSeq (sAsg (dBin oIx (dBin oIx (dVar 1) (dC (.int 1))) (dCallN c kt 2 (aCons (dVar 0) (aCons (dC (.int 3)) aNil)))) (gTp 2 (gsCons (gNm 5) (gsCons (gNm 6) gsNil))))
 (sRet (dTup (aCons (dC (.str t_packet)) (aCons (dVar 5) (aCons (dIf (tV (dUn cIsN (dVar 6))) (dC .non) (dCallN c kq 3 (aCons (dVar 0) (aCons (dVar 6) (aCons (dVar 2) aNil))))) aNil))))))
 sNil)
 (sSeq (sAsg (dCallN c kt 2 (aCons (dVar 0) (aCons (dArgs bLen (aCons (dBin oIx (dVar 1) (dC (.int 1))) aNil)) aNil))) (gNm 7))
 (sSeq (sAsg (dBin oIx (dBin oIx (dVar 1) (dC (.int 2))) (dVar 7)) (gNm 6))
 (sRet (dTup (aCons (dC (.str t_con)) (aCons (dBin oIx (dVar 1) (dC (.int 1))) (aCons (dVar 7) (aCons (dIf (tV (dUn cIsN (dVar 6))) (dC .non) (dCallN c kq 3 (aCons (dVar 0) (aCons (dVar 6) (aCons (dVar 2) aNil))))) aNil)))))))))))))))
def valuePB (kt ki kv : Nat) (c : Cal) : SDen :=
 (sSeq (sIf (tV (dBin cEq (dBin oIx (dVar 1) (dC (.int 0))) (dC (.str t_int))))
 (sRet (dTup (aCons (dC (.str t_int)) (aCons (dCallN c ki 2 (aCons (dVar 0) (aCons (dC (.int 4)) aNil))) aNil))))
 sNil)
 (sSeq (sIf (tV (dBin cEq (dBin oIx (dVar 1) (dC (.int 0))) (dC (.str t_tuple))))
 (sRet (dTup (aCons (dC (.str t_tuple)) (aCons (dArgs fTup (aComp (wSeq (dBin oIx (dVar 1) (dC (.int 1)))) [6] (gNm 6) PI.tYes (dCallN c kv 3 (aCons (dVar 0) (aCons (dVar 6) (aCons (dVar 2) aNil)))))) aNil))))
 sNil)
 (sSeq (sIf (tV (dBin cEq (dBin oIx (dVar 1) (dC (.int 0))) (dC (.str t_packet))))
 (sSeq (sAsg (dCallN c kt 2 (aCons (dVar 0) (aCons (dC (.int 4)) aNil))) (gNm 3))
 (sSeq (sIf (tV (dBin cEq (dVar 3) (dC (.int 3))))
 (sRet (dTup (aCons (dC (.str t_packet)) (aCons (dC (.int 77)) (aCons (dC (.str [69])) (aCons (dC .non) aNil))))))
 sNil)
 (sSeq (sAsg (dBin oIx (dBin oIx (dBin oIx (dVar 1) (dC (.int 1))) (dVar 3)) (dC (.int 1))) (gNm 4))
 (sRet (dTup (aCons (dC (.str t_packet)) (aCons (dBin oIx (dVar 2) (dVar 3)) (aCons (dC (.str [69])) (aCons (dIf (tV (dUn cIsN (dVar 4))) (dC .non) (dCallN c kv 3 (aCons (dVar 0) (aCons (dVar 4) (aCons (dVar 2) aNil))))) aNil)))))))))
 sNil)
 (sSeq (sAsg (dCallN c kt 2 (aCons (dVar 0) (aCons (dArgs bLen (aCons (dBin oIx (dVar 1) (dC (.int 1))) aNil)) aNil))) (gNm 5))
 (sSeq (sAsg (dBin oIx (dBin oIx (dVar 1) (dC (.int 2))) (dVar 5)) (gNm 4))
 (sRet (dTup (aCons (dC (.str t_con)) (aCons (dVar 5) (aCons (dBin oIx (dBin oIx (dBin oIx (dVar 1) (dC (.int 1))) (dVar 5)) (dC (.int 0))) (aCons (dIf (tV (dUn cIsN (dVar 4))) (dC .non) (dCallN c kv 3 (aCons (dVar 0) (aCons (dVar 4) (aCons (dVar 2) aNil))))) aNil)))))))))))
def numberB (kp : Nat) (c : Cal) : SDen :=
 (sRet (dBin oIx (dVar 1) (dMeth mIndex (dCall0 c kp) (aCons (dVar 0) aNil))))
def fitB (kn kf : Nat) (c : Cal) : SDen :=
 (sSeq (sIf (tV (dBin cEq (dBin oIx (dVar 0) (dC (.int 0))) (dC (.str t_any))))
 (sRet (dC (.bl true)))
 sNil)
 (sSeq (sIf (tV (dBin cEq (dBin oIx (dVar 0) (dC (.int 0))) (dC (.str t_var))))
 (sSeq (sExpr (dMeth mAppend (dVar 3) (aCons (dTup (aCons (dBin oIx (dVar 0) (dC (.int 1))) (aCons (dVar 1) aNil))) aNil)))
 (sRet (dC (.bl true))))
 sNil)
 (sSeq (sIf (tV (dBin cEq (dBin oIx (dVar 0) (dC (.int 0))) (dC (.str t_as))))
 (sSeq (sExpr (dMeth mAppend (dVar 3) (aCons (dTup (aCons (dBin oIx (dVar 0) (dC (.int 1))) (aCons (dVar 1) aNil))) aNil)))
 (sRet (dCallN c kf 4 (aCons (dBin oIx (dVar 0) (dC (.int 2))) (aCons (dVar 1) (aCons (dVar 2) (aCons (dVar 3) aNil)))))))
 sNil)
 (sSeq (sIf (tV (dBin cEq (dBin oIx (dVar 0) (dC (.int 0))) (dC (.str t_int))))
 (sRet (dBin cEq (dBin oIx (dVar 1) (dC (.int 1))) (dBin oIx (dVar 0) (dC (.int 1)))))
 sNil)
 (sSeq (sIf (tV (dBin cEq (dBin oIx (dVar 0) (dC (.int 0))) (dC (.str t_tuple))))
 (sSeq (sFor (wRng1 (dArgs bLen (aCons (dBin oIx (dVar 0) (dC (.int 1))) aNil))) (gNm 4)
 (sIf (PI.tNot (tT (dCallN c kf 4 (aCons (dBin oIx (dBin oIx (dVar 0) (dC (.int 1))) (dVar 4)) (aCons (dBin oIx (dBin oIx (dVar 1) (dC (.int 1))) (dVar 4)) (aCons (dVar 2) (aCons (dVar 3) aNil)))))))
 (sRet (dC (.bl false)))
 sNil))
 (sRet (dC (.bl true))))
 sNil)
 (sSeq (sIf (tV (dBin cEq (dBin oIx (dVar 0) (dC (.int 0))) (dC (.str t_con))))
 (sSeq (sAsg (dBin cEq (dBin oIx (dVar 1) (dC (.int 1))) (dBin oIx (dVar 0) (dC (.int 2)))) (gNm 5))
 (sAsg (dBin oIx (dVar 0) (dC (.int 3))) (gNm 6)))
 (sSeq (sAsg (dBin cEq (dBin oIx (dVar 1) (dC (.int 1))) (dCallN c kn 2 (aCons (dBin oIx (dVar 0) (dC (.int 1))) (aCons (dVar 2) aNil)))) (gNm 5))
 (sAsg (dBin oIx (dVar 0) (dC (.int 2))) (gNm 6))))
 (sSeq (sIf (PI.tOr (PI.tNot (tT (dVar 5))) (tV (dBin cNe (dUn cIsN (dVar 6)) (dUn cIsN (dBin oIx (dVar 1) (dC (.int 3)))))))
 (sRet (dC (.bl false)))
 sNil)
 (sRet (dOr (dUn cIsN (dVar 6)) (dCallN c kf 4 (aCons (dVar 6) (aCons (dBin oIx (dVar 1) (dC (.int 3))) (aCons (dVar 2) (aCons (dVar 3) aNil))))))))))))))
def pairsB (kp : Nat) (c : Cal) : SDen :=
 (sSeq (sAsg (dCall0 c kp) (gNm 1))
 (sRet (dLc (aComp (wRng1 (dC (.int 3))) [2] (gNm 2) PI.tYes (dTup (aCons (dBin oIx (dVar 1) (dVar 2)) (aCons (dBin oIx (dVar 0) (dVar 2)) aNil)))))))
def pathD : Nat → D
  | 0 => .tup [.str t_var, .str [112]]
  | 1 => .tup [.str t_field, .str [113], .tup [.str t_var, .str [109]]]
  | _ => .tup [.str t_field, .str [113], .tup [.str t_field, .str [115], .tup [.str t_var, .str [109]]]]
/-- kinds; nil: None -/
inductive Kd where
  | nil | int | tup (ks : List Kd) | pkt (ks : List Kd) | con (fam : List (List Nat × Bool)) (ks : List Kd)
/-- patterns -/
inductive Pt where
  | nil | any | var (s : List Nat) | as (s : List Nat) (p : Pt) | int (i : Int) | tup (ps : List Pt) | pkt (i : Nat) (p : Pt) | con (fam : List (List Nat × Bool)) (a : Nat) (p : Pt)
/-- values -/
inductive Vq where
  | nil | int (i : Int) | tup (vs : List Vq) | con (a : Nat) (nm : List Nat) (v : Vq) | pkt (n : Int) (nm : List Nat) (v : Vq) | oth (t : List Nat) (ds : List D)
def famD (fam : List (List Nat × Bool)) : List D := fam.map fun p => .tup [.str p.1, .bl p.2]
mutual
def Kd.enc : Kd → D
  | .nil => .non
  | .int => .tup [.str t_int]
  | .tup ks => .tup [.str t_tuple, .tup (Kd.encL ks)]
  | .pkt ks => .tup [.str t_packet, .tup (Kd.encR 0 ks)]
  | .con fam ks => .tup [.str t_con, .tup (famD fam), .tup (Kd.encL ks)]
def Kd.encL : List Kd → List D
  | [] => []
  | k :: ks => k.enc :: Kd.encL ks
def Kd.encR : Nat → List Kd → List D
  | _, [] => []
  | i, k :: ks => .tup [pathD i, k.enc] :: Kd.encR (i + 1) ks
end
mutual
def Pt.enc : Pt → D
  | .nil => .non
  | .any => .tup [.str t_any]
  | .var s => .tup [.str t_var, .str s]
  | .as s p => .tup [.str t_as, .str s, p.enc]
  | .int i => .tup [.str t_int, .int i]
  | .tup ps => .tup [.str t_tuple, .tup (Pt.encL ps)]
  | .pkt i p => .tup [.str t_packet, pathD i, p.enc]
  | .con fam a p => .tup [.str t_con, .tup (famD fam), .int (a : Nat), p.enc]
def Pt.encL : List Pt → List D
  | [] => []
  | k :: ks => k.enc :: Pt.encL ks
end
mutual
def Vq.enc : Vq → D
  | .nil => .non
  | .int i => .tup [.str t_int, .int i]
  | .tup vs => .tup [.str t_tuple, .tup (Vq.encL vs)]
  | .con a nm v => .tup [.str t_con, .int (a : Nat), .str nm, v.enc]
  | .pkt n nm v => .tup [.str t_packet, .int n, .str nm, v.enc]
  | .oth t ds => .tup (.str t :: ds)
def Vq.encL : List Vq → List D
  | [] => []
  | k :: ks => k.enc :: Vq.encL ks
end
theorem kencL (ks : List Kd) : Kd.encL ks = ks.map Kd.enc := by
  induction ks with
  | nil => rfl
  | cons k ks ih => rw [Kd.encL, ih, List.map_cons]
theorem pencL (ks : List Pt) : Pt.encL ks = ks.map Pt.enc := by
  induction ks with
  | nil => rfl
  | cons k ks ih => rw [Pt.encL, ih, List.map_cons]
theorem vencL (ks : List Vq) : Vq.encL ks = ks.map Vq.enc := by
  induction ks with
  | nil => rfl
  | cons k ks ih => rw [Vq.encL, ih, List.map_cons]
theorem kencR_append : ∀ (i : Nat) (ks : List Kd) (k : Kd), Kd.encR i (ks ++ [k]) = Kd.encR i ks ++ [.tup [pathD (i + ks.length), k.enc]]
  | i, [], k => rfl
  | i, q :: ks, k => by
    rw [List.cons_append, Kd.encR, Kd.encR, kencR_append (i + 1) ks k, List.length_cons, show i + 1 + ks.length = i + (ks.length + 1) by omega]
    rfl
theorem kencR_len : ∀ (i : Nat) (ks : List Kd), (Kd.encR i ks).length = ks.length
  | i, [] => rfl
  | i, q :: ks => by rw [Kd.encR, List.length_cons, List.length_cons, kencR_len]
theorem kencR_at : ∀ {i j : Nat} {ks : List Kd} {k : Kd}, ks[j]? = some k → (Kd.encR i ks)[j]? = some (.tup [pathD (i + j), k.enc])
  | _, _, [], _, e => by simp at e
  | i, 0, q :: ks, k, e => by
    simp at e
    subst e
    rfl
  | i, j + 1, q :: ks, k, e => by
    have := kencR_at (i := i + 1) (j := j) (ks := ks) (k := k) (by simpa using e)
    rw [Kd.encR, List.getElem?_cons_succ, this, show i + 1 + j = i + (j + 1) by omega]
mutual
def Pt.dep : Pt → Nat
  | .as _ p => p.dep + 1
  | .tup ps => Pt.depL ps + 1
  | .pkt _ p => p.dep + 1
  | .con _ _ p => p.dep + 1
  | _ => 0
def Pt.depL : List Pt → Nat
  | [] => 0
  | p :: ps => max p.dep (Pt.depL ps)
end
mutual
/-- the names in it -/
def Pt.nb : Pt → Nat
  | .var _ => 1
  | .as _ p => p.nb + 1
  | .tup ps => Pt.nbL ps
  | .pkt _ p => p.nb
  | .con _ _ p => p.nb
  | _ => 0
def Pt.nbL : List Pt → Nat
  | [] => 0
  | p :: ps => p.nb + Pt.nbL ps
end
theorem pdepL_at {n : Nat} : ∀ {ps : List Pt}, Pt.depL ps ≤ n ↔ ∀ p ∈ ps, p.dep ≤ n
  | [] => by simp [Pt.depL]
  | p :: ps => by
    rw [Pt.depL, Nat.max_le, pdepL_at]
    simp
/-- a kind of at most n levels -/
def Kd.Ok : Nat → Kd → Prop
  | _, .int => True
  | n + 1, .tup ks => ks.length ≤ 6 ∧ ks.length ≠ 1 ∧ ∀ k ∈ ks, Kd.Ok n k
  | n + 1, .pkt ks => ks.length = 3 ∧ ∀ k ∈ ks, k = .nil ∨ Kd.Ok n k
  | n + 1, .con fam ks => 0 < fam.length ∧ fam.length ≤ 12 ∧ (∀ i p, fam[i]? = some p → p.1 = [65 + i] ∧ ∃ k, ks[i]? = some k ∧ (p.2 = true ↔ k ≠ .nil)) ∧ ks.length = fam.length ∧ ∀ k ∈ ks, k = .nil ∨ Kd.Ok n k
  | _, _ => False
/-- the value is of the kind; num: the exceptions' numbers -/
def HasV (num : Nat → Int) : Nat → Kd → Vq → Prop
  | _, .int, .int i => -2147483648 ≤ i ∧ i ≤ 2147483647
  | n + 1, .tup ks, .tup vs => ks.length = vs.length ∧ ∀ (i : Nat) (k : Kd) (v : Vq), ks[i]? = some k → vs[i]? = some v → HasV num n k v
  | n + 1, .pkt ks, .pkt m nm v => nm = [69] ∧ ((m = 77 ∧ v = .nil) ∨ ∃ (i : Nat) (k : Kd), ks[i]? = some k ∧ m = num i ∧ ((k = .nil ∧ v = .nil) ∨ HasV num n k v))
  | n + 1, .con fam ks, .con a nm v => ∃ k p, ks[a]? = some k ∧ fam[a]? = some p ∧ nm = p.1 ∧ ((k = .nil ∧ v = .nil) ∨ HasV num n k v)
  | _, _, _ => False
/-- the pattern is of the kind -/
inductive HasP : Nat → Kd → Pt → Prop where
  | any {n : Nat} {k : Kd} : HasP n k .any
  | var {n : Nat} {k : Kd} {s : List Nat} {hs : s.all (· < 0x110000) = true} : HasP n k (.var s)
  | as {n : Nat} {k : Kd} {p : Pt} {s : List Nat} : HasP n k p → {hs : s.all (· < 0x110000) = true} → HasP n k (.as s p)
  | int {n : Nat} {i : Int} : -2147483648 ≤ i → i ≤ 2147483647 → HasP n .int (.int i)
  | tup {n : Nat} {ks : List Kd} {ps : List Pt} : ks.length = ps.length → (∀ (i : Nat) (k : Kd) (p : Pt), ks[i]? = some k → ps[i]? = some p → HasP n k p) → HasP (n + 1) (.tup ks) (.tup ps)
  | pkt0 {n i : Nat} {ks : List Kd} : ks[i]? = some .nil → HasP (n + 1) (.pkt ks) (.pkt i .nil)
  | pkt1 {n i : Nat} {ks : List Kd} {k : Kd} {p : Pt} : ks[i]? = some k → k ≠ .nil → HasP n k p → HasP (n + 1) (.pkt ks) (.pkt i p)
  | con0 {n a : Nat} {fam : List (List Nat × Bool)} {ks : List Kd} : ks[a]? = some .nil → HasP (n + 1) (.con fam ks) (.con fam a .nil)
  | con1 {n a : Nat} {fam : List (List Nat × Bool)} {ks : List Kd} {k : Kd} {p : Pt} : ks[a]? = some k → k ≠ .nil → HasP n k p → HasP (n + 1) (.con fam ks) (.con fam a p)
structure PatT (T : Nat → Df) (km kt kp ki kk kq kv kn kf ks : Nat) : Prop where
  mix : T km = ⟨1, 1, mixB⟩
  take : T kt = ⟨4, 2, takeB km⟩
  paths : T kp = ⟨0, 0, pathsB⟩
  int : T ki = ⟨2, 2, integerB kt⟩
  kind : T kk = ⟨11, 2, kindB kt kp kk⟩
  pat : T kq = ⟨9, 3, patternB kt ki kq⟩
  val : T kv = ⟨7, 3, valuePB kt ki kv⟩
  num : T kn = ⟨2, 2, numberB kp⟩
  fit : T kf = ⟨7, 4, fitB kn kf⟩
  pairs : T ks = ⟨3, 1, pairsB kp⟩
theorem Sat.startA {T : Nat → Df} {k n ps f : Nat} {b : Cal → SDen} {ds : List D} {e : En} {h : Hh} {Q : D → Hh → Prop} (hT : T k = ⟨n, ps, b⟩) (c : ds.length = ps) (he : ds.map some ++ List.replicate (n - ps) none = e) (s : Sat (b (sem T f) e h) (retK Q)) : Sat (sem T (f + 1) k ds h) Q := by
  subst he
  exact .start hT c s
section
variable {T : Nat → Df} {km kt kp ki kk kq kv kn kf ks f : Nat}
theorem PatT.tk (V : PatT T km kt kp ki kk kq kv kn kf ks) {h : Hh} {m : Int} (t : TT h) (hm : 0 < m) (hm2 : m.natAbs.log2 < 8000 := by decide) : Sat (sem T (f + 2) kt [.ref 1, .int m] h) (Took h m) := (take_ok V.take V.mix t hm hm2).mono fun r h' ⟨a, b, _, c⟩ => ⟨a, b, c⟩
theorem paths_ok (V : PatT T km kt kp ki kk kq kv kn kf ks) {h : Hh} : Sat (sem T (f + 1) kp [] h) fun r h' => r = .ref h.length ∧ h' = h ++ [.lst [pathD 0, pathD 1, pathD 2]] := by
  refine .startA V.paths rfl rfl ?_
  unfold pathsB
  repeat walk_at "pi"
  exact ⟨rfl, rfl⟩
theorem integer_ok (V : PatT T km kt kp ki kk kq kv kn kf ks) {h : Hh} {m : Int} (t : TT h) (hm : 0 < m) (hm3 : m ≤ 1000) : Sat (sem T (f + 3) ki [.ref 1, .int m] h) fun r h' => TT h' ∧ Keep h h' ∧ ∃ i : Int, r = .int i ∧ -2147483648 ≤ i ∧ i ≤ 2147483647 := by
  refine .startA V.int rfl rfl ?_
  unfold integerB
  repeat walk_at "pi"
  refine (V.tk t (by decide)).mono fun r h1 ⟨t1, k1, d, er, d0, d1⟩ => ?_
  subst er
  repeat walk_at "pi"
  refine ifK.d (fun _ => ?_) fun _ => ?_
  · repeat walk_at "pi"
    refine (V.tk t1.push (by decide)).mono fun r h2 ⟨t2, k2, d, er, d0, d1⟩ => ?_
    subst er
    refine Sat.ixL' (k2.at t1.len at_push) d0 (by simpa using d1) fun x hx => ?_
    repeat walk_at "pi"
    refine ⟨t2, (k1.trans Keep.push).trans k2, ?_⟩
    simp only [List.mem_cons, List.not_mem_nil, or_false] at hx
    rcases hx with rfl | rfl | rfl | rfl | rfl | rfl | rfl | rfl <;> exact ⟨_, rfl, by decide, by decide⟩
  · repeat walk_at "pi"
    refine (V.tk t1 hm (by
      refine Nat.lt_trans (log_lt (k := 10) ?_ (by decide)) (by decide)
      omega)).mono fun r h2 ⟨t2, k2, d, er, d0, d1⟩ => ?_
    subst er
    repeat walk_at "pi"
    exact ⟨t2, k1.trans k2, d - 1, rfl, by omega, by omega⟩
def DrawnK (n : Nat) (h : Hh) (r : D) (h' : Hh) : Prop := TT h' ∧ Keep h h' ∧ ∃ k : Kd, r = k.enc ∧ k.Ok n
theorem DrawnK.back {n : Nat} {h h0 h1 : Hh} {r : D} (hk : Keep h0 h) (x : DrawnK n h r h1) : DrawnK n h0 r h1 := ⟨x.1, hk.trans x.2.1, x.2.2⟩
theorem Kd.Ok.nnil {n : Nat} {k : Kd} (h : k.Ok n) : k ≠ .nil := by
  intro e
  subst e
  cases n <;> exact h
theorem enc_ne {k : Kd} (h : k ≠ .nil) : ∃ d ds, k.enc = .tup (d :: ds) := by
  cases k with
  | nil => exact absurd rfl h
  | _ => exact ⟨_, _, by rw [Kd.enc]⟩
theorem kind_step {g n m : Nat} (V : PatT T km kt kp ki kk kq kv kn kf ks) {h : Hh} {level : Int} (t : TT h) (hz : level ≤ 0 ∨ m = n + 1)
    (ih : 0 < level → ∀ h, TT h → Sat (sem T (g + 2) kk [.ref 1, .int (level - 1)] h) (DrawnK n h)) :
    Sat (sem T (g + 3) kk [.ref 1, .int level] h) (DrawnK m h) := by
  refine .startA V.kind rfl rfl ?_
  unfold kindB
  walk_at "pi"
  refine Sat.mono (P := fun f h' => ∃ d : Int, f = .nx [some (.ref 1), some (.int level), some (.int d), none, none, none, none, none, none, none, none] ∧ TT h' ∧ Keep h h' ∧ 0 ≤ d ∧ (0 < level ∨ d = 0)) ?_ ?_
  · repeat walk_at "pi"
    refine ifK.d (fun hl => ?_) fun hl => ?_
    · repeat walk_at "pi"
      refine (V.tk t (by decide)).mono fun r h1 ⟨t1, k1, d, er, d0, d1⟩ => ?_
      subst er
      repeat walk_at "pi"
      exact ⟨d, rfl, t1, k1, d0, .inl hl⟩
    · repeat walk_at "pi"
      exact ⟨0, rfl, t, Keep.refl _, by omega, .inr rfl⟩
  intro f h1 ⟨d, ef, t1, k1, d0, dl⟩
  subst ef
  repeat walk_at "pi"
  refine ifK.d (fun c0 => ?_) fun c0 => ?_
  · repeat walk_at "pi"
    exact ⟨t1, k1, .int, rfl, by cases m <;> exact trivial⟩
  have hlev : 0 < level := by omega
  have hm : m = n + 1 := by omega
  subst hm
  have ih := ih hlev
  repeat walk_at "pi"
  refine ifK.d (fun c1 => ?_) fun c1 => ?_
  · repeat walk_at "pi"
    refine (V.tk t1.push (by decide)).mono fun r h2 ⟨t2, k2, d2, er, e0, e1⟩ => ?_
    subst er
    refine Sat.ixL' (k2.at t1.len at_push) e0 (by simpa using e1) fun x hx => ?_
    obtain ⟨mm, rfl, hmm, hm1⟩ : ∃ mm : Int, x = .int mm ∧ (0 ≤ mm ∧ mm ≤ 6) ∧ mm ≠ 1 := by
      simp only [List.mem_cons, List.not_mem_nil, or_false] at hx
      rcases hx with rfl | rfl | rfl | rfl <;> exact ⟨_, rfl, by decide, by decide⟩
    clear hx
    have kk2 := (k1.trans Keep.push).trans k2
    clear k1 k2 t1
    walk_at "pi"
    walk_at "pi"
    walk_at "pi"
    refine Sat.mono (P := fun f h' => ∃ mm : Int, f = .nx [some (.ref 1), some (.int level), some (.int d), some (.int mm), none, none, none, none, none, none, none] ∧ TT h' ∧ Keep h h' ∧ (0 ≤ mm ∧ mm ≤ 6) ∧ mm ≠ 1) ?_ ?_
    · repeat walk_at "pi"
      refine ifK.d (fun _ => ?_) fun _ => ?_
      · repeat walk_at "pi"
        refine (V.tk t2 (by decide)).mono fun r h3 ⟨t3, k3, d3, er, f0, f1⟩ => ?_
        subst er
        repeat walk_at "pi"
        refine ifK.d (fun _ => ?_) fun _ => ?_
        · repeat walk_at "pi"
          refine (V.tk t3 (by decide)).mono fun r h4 ⟨t4, k4, d4, er, g0, g1⟩ => ?_
          subst er
          repeat walk_at "pi"
          exact ⟨4 + d4, rfl, t4, (kk2.trans k3).trans k4, by omega, by omega⟩
        · repeat walk_at "pi"
          exact ⟨mm, rfl, t3, kk2.trans k3, hmm, hm1⟩
      · repeat walk_at "pi"
        exact ⟨mm, rfl, t2, kk2, hmm, hm1⟩
    intro f h3 ⟨mm, ef, t3, k3, hmm, hm1⟩
    subst ef
    repeat walk_at "pi"
    refine ⟨⟨by omega, by omega⟩, ?_⟩
    refine Sat.compIx (fun i acc h' => TT h' ∧ Keep h h' ∧ ∃ ks : List Kd, acc = Kd.encL ks ∧ ks.length = i ∧ ∀ k ∈ ks, k.Ok n) ⟨t3, k3, [], rfl, rfl, by simp⟩ (fun _ _ _ _ => rfl) (fun i d acc h3 hd ⟨t3, k3, ks, ea, hl, ho⟩ => ?_) fun acc h3 ⟨t3, k3, ks, ea, hl, ho⟩ => ?_
    · obtain ⟨hi, rfl⟩ := rng_at hd
      repeat walk_at "pi"
      refine (ih _ t3).mono fun r h4 ⟨t4, k4, k, er, ok⟩ => ?_
      subst er ea
      refine ⟨by rw [kencL, List.length_map]; unfold SL; omega, t4, k3.trans k4, ks ++ [k], by simp [kencL], by simp [hl], fun q hq => ?_⟩
      rcases List.mem_append.mp hq with z | z
      · exact ho q z
      · rw [List.mem_singleton.mp z]
        exact ok
    · rw [rng_len] at hl
      subst ea
      repeat walk_at "pi"
      exact ⟨t3, k3, .tup ks, rfl, by omega, by omega, ho⟩
  repeat walk_at "pi"
  refine ifK.d (fun c2 => ?_) fun c2 => ?_
  · repeat walk_at "pi"
    refine (paths_ok V).mono fun r h2 ⟨er, eh⟩ => ?_
    subst er eh
    have l1 := t1.len
    refine wsK.lst at_push ?_
    obtain ⟨P, hP⟩ : ∃ P, P = h1.length := ⟨_, rfl⟩
    rw [← hP]
    have hPl : h.length ≤ P := by have := k1.1; omega
    have hP2 : 2 ≤ P := by omega
    have q1 : (h1 ++ [Ob.lst []] ++ [Ob.lst [pathD 0, pathD 1, pathD 2]])[P]? = some (.lst []) := by rw [hP, List.getElem?_append_left (by simp)]; exact at_push
    have q2 : (h1 ++ [Ob.lst []] ++ [Ob.lst [pathD 0, pathD 1, pathD 2]])[P + 1]? = some (.lst [pathD 0, pathD 1, pathD 2]) := by
      rw [hP, show h1.length + 1 = (h1 ++ [Ob.lst []]).length by simp]; exact at_push
    have q3 : (h1 ++ [Ob.lst []]).length = P + 1 := by simp [hP]
    rw [q3]
    clear hP
    refine Sat.forIx (fun i e h' => TT h' ∧ Keep h h' ∧ h'[P + 1]? = some (.lst [pathD 0, pathD 1, pathD 2]) ∧ (∃ v6 v7, e = [some (.ref 1), some (.int level), some (.int d), none, none, some (.ref P), v6, v7, none, none, none]) ∧ ∃ ks : List Kd, h'[P]? = some (.lst (Kd.encR 0 ks)) ∧ ks.length = i ∧ ∀ k ∈ ks, k = .nil ∨ k.Ok n) ?_ ?_ ?_ ?_
    · exact ⟨t1.push.push, (k1.trans Keep.push).trans Keep.push, q2, ⟨_, _, rfl⟩, [], q1, rfl, by simp⟩
    · intro i e h' ⟨_, _, a, _⟩
      exact Wk.still_lst (by simp only [lstAt, a])
    · intro i x e h' hx ⟨t2, k2, a2, ⟨v6, v7, ee⟩, ks, a1, hl, ho⟩
      subst ee
      have hi : i < 3 := by simpa using (List.getElem?_eq_some_iff.mp hx).1
      have ex : x = pathD i := by
        have : i = 0 ∨ i = 1 ∨ i = 2 := by omega
        rcases this with rfl | rfl | rfl <;> (simp at hx; exact hx.symm)
      subst ex
      walk_at "pi"
      walk_at "pi"
      walk_at "pi"
      walk_at "pi"
      walk_at "pi"
      walk_at "pi"
      walk_at "pi"
      refine Sat.mono (P := fun f h' => TT h' ∧ Keep h h' ∧ h'[P + 1]? = some (.lst [pathD 0, pathD 1, pathD 2]) ∧ h'[P]? = some (.lst (Kd.encR 0 ks)) ∧ ∃ k : Kd, f = .nx [some (.ref 1), some (.int level), some (.int d), none, none, some (.ref P), some (pathD i), some k.enc, none, none, none] ∧ (k = .nil ∨ k.Ok n)) ?_ ?_
      · repeat walk_at "pi"
        refine (V.tk t2 (by decide)).mono fun r h3 ⟨t3, k3, d3, er, f0, f1⟩ => ?_
        subst er
        repeat walk_at "pi"
        refine ifK.d (fun _ => ?_) fun _ => ?_
        · repeat walk_at "pi"
          refine (ih _ t3).mono fun r h4 ⟨t4, k4, k, er, ok⟩ => ?_
          subst er
          repeat walk_at "pi"
          exact ⟨t4, (k2.trans k3).trans k4, k4.at (by omega) (k3.at (by omega) a2), k4.at (by omega) (k3.at (by omega) a1), k, rfl, .inr ok⟩
        · repeat walk_at "pi"
          exact ⟨t3, k2.trans k3, k3.at (by omega) a2, k3.at (by omega) a1, .nil, rfl, .inl rfl⟩
      intro f h3 ⟨t3, k3, a3, a4, k, ef, ok⟩
      subst ef
      repeat walk_at "pi"
      refine lsK.mk a4 ?_
      repeat walk_at "pi"
      refine Sat.append a4 (by rw [kencR_len]; unfold SL; omega) ?_
      repeat walk_at "pi"
      refine ⟨t3.set (by omega), k3.set (by omega), by rw [List.getElem?_set_ne (by omega)]; exact a3, ⟨_, _, rfl⟩, ks ++ [k], ?_, by simp [hl], fun q hq => ?_⟩
      · rw [at_set a4, kencR_append, Nat.zero_add, hl]
      · rcases List.mem_append.mp hq with z | z
        · exact ho q z
        · rw [List.mem_singleton.mp z]
          exact ok
    · intro e h' ⟨t2, k2, a2, ⟨v6, v7, ee⟩, ks, a1, hl, ho⟩
      subst ee
      repeat walk_at "pi"
      refine Sat.tupL a1 ?_
      repeat walk_at "pi"
      exact ⟨t2, k2, .pkt ks, rfl, hl, ho⟩
  repeat walk_at "pi"
  have l1 := t1.len
  obtain ⟨P, hP⟩ : ∃ P, P = h1.length := ⟨_, rfl⟩
  have hPl : h.length ≤ P := by have := k1.1; omega
  have hP2 : 2 ≤ P := by omega
  have q1 : (h1 ++ [Ob.lst []] ++ [Ob.lst []])[P]? = some (.lst []) := by rw [hP, List.getElem?_append_left (by simp)]; exact at_push
  have q2 : (h1 ++ [Ob.lst []] ++ [Ob.lst []])[P + 1]? = some (.lst []) := by
    rw [hP, show h1.length + 1 = (h1 ++ [Ob.lst []]).length by simp]; exact at_push
  have q3 : (h1 ++ [Ob.lst []]).length = P + 1 := by simp [hP]
  rw [q3, ← hP]
  have kk1 := (k1.trans (Keep.push (o := Ob.lst []))).trans (Keep.push (o := Ob.lst []))
  have tt1 := (t1.push (o := Ob.lst [])).push (o := Ob.lst [])
  revert q1 q2 kk1 tt1
  generalize h1 ++ [Ob.lst []] ++ [Ob.lst []] = h2
  intro q1 q2 kk1 tt1
  clear hP q3 k1 t1 l1
  refine (V.tk tt1 (by decide)).mono fun r h3 ⟨t3, k3, d3, er, f0, f1⟩ => ?_
  subst er
  have a1 := k3.at (by omega) q1
  have a2 := k3.at (by omega) q2
  have kk3 := kk1.trans k3
  clear q1 q2 k3 kk1 tt1
  walk_at "pi"
  walk_at "pi"
  walk_at "pi"
  walk_at "pi"
  refine Sat.mono (P := fun f h' => ∃ mm : Nat, f = .nx [some (.ref 1), some (.int level), some (.int d), some (.int mm), none, none, none, none, some (.ref P), some (.ref (P + 1)), none] ∧ TT h' ∧ Keep h h' ∧ 1 ≤ mm ∧ mm ≤ 12 ∧ h'[P]? = some (.lst []) ∧ h'[P + 1]? = some (.lst [])) ?_ ?_
  · repeat walk_at "pi"
    refine (V.tk t3 (by decide)).mono fun r h4 ⟨t4, k4, d4, er, g0, g1⟩ => ?_
    subst er
    have b1 := k4.at (by omega) a1
    have b2 := k4.at (by omega) a2
    repeat walk_at "pi"
    refine ifK.d (fun _ => ?_) fun _ => ?_
    · repeat walk_at "pi"
      refine (V.tk t4 (by decide)).mono fun r h5 ⟨t5, k5, d5, er, i0, i1⟩ => ?_
      subst er
      repeat walk_at "pi"
      exact ⟨(1 + d5).toNat, by rw [Int.toNat_of_nonneg (by omega)]; rfl, t5, (kk3.trans k4).trans k5, by omega, by omega, k5.at (by omega) b1, k5.at (by omega) b2⟩
    · repeat walk_at "pi"
      exact ⟨(1 + d3).toNat, by rw [Int.toNat_of_nonneg (by omega)]; rfl, t4, kk3.trans k4, by omega, by omega, b1, b2⟩
  clear a1 a2 t3 kk3
  intro f h4 ⟨mm, ef, t4, k4, m1, m2, a1, a2⟩
  subst ef
  repeat walk_at "pi"
  refine ⟨⟨by omega, by omega⟩, ?_⟩
  refine Sat.forIx (fun i e h' => TT h' ∧ Keep h h' ∧ (∃ v4 v10, e = [some (.ref 1), some (.int level), some (.int d), some (.int mm), v4, none, none, none, some (.ref P), some (.ref (P + 1)), v10]) ∧
    ∃ (fam : List (List Nat × Bool)) (ks : List Kd), h'[P]? = some (.lst (famD fam)) ∧ h'[P + 1]? = some (.lst (Kd.encL ks)) ∧ fam.length = i ∧ ks.length = i ∧ (∀ i p, fam[i]? = some p → p.1 = [65 + i] ∧ ∃ k, ks[i]? = some k ∧ (p.2 = true ↔ k ≠ .nil)) ∧ ∀ k ∈ ks, k = .nil ∨ k.Ok n) ?_ (fun _ _ _ _ => rfl) ?_ ?_
  · exact ⟨t4, k4, ⟨_, _, rfl⟩, [], [], a1, a2, rfl, rfl, by simp, by simp⟩
  · clear a1 a2 t4 k4
    intro i x e h' hx ⟨t5, k5, ⟨v4, v10, ee⟩, fam, ks, a1, a2, l1, l2, hf, ho⟩
    subst ee
    obtain ⟨hi, rfl⟩ := rng_at hx
    have hi : i < mm := by simpa using hi
    have e0 : (0 : Int) + (i : Int) = (i : Int) := by omega
    rw [e0]
    repeat walk_at "pi"
    refine (V.tk t5 (by decide)).mono fun r h6 ⟨t6, k6, d6, er, g0, g1⟩ => ?_
    subst er
    have b1 := k6.at (by omega) a1
    have b2 := k6.at (by omega) a2
    repeat walk_at "pi"
    refine lsK.mk b1 ?_
    repeat walk_at "pi"
    have hc : atIx [65, 66, 67, 68, 69, 70, 71, 72, 73, 74, 75, 76] (i : Int) = some (65 + i) := by
      refine atIx_nat ?_
      have : i = 0 ∨ i = 1 ∨ i = 2 ∨ i = 3 ∨ i = 4 ∨ i = 5 ∨ i = 6 ∨ i = 7 ∨ i = 8 ∨ i = 9 ∨ i = 10 ∨ i = 11 := by omega
      rcases this with rfl | rfl | rfl | rfl | rfl | rfl | rfl | rfl | rfl | rfl | rfl | rfl <;> rfl
    refine Sat.of (a := .str [65 + i]) (h := h6) ?_ ?_
    · simp only [oIx, hc]
      rfl
    repeat walk_at "pi"
    refine Sat.append b1 (by simp [famD, l1]; unfold SL; omega) ?_
    repeat walk_at "pi"
    have hb : ∀ w : Bool, famD fam ++ [D.tup [.str [65 + i], .bl w]] = famD (fam ++ [([65 + i], w)]) := fun w => by simp [famD]
    rw [hb]
    have c1 : (h6.set P (.lst (famD (fam ++ [([65 + i], decide (d6 = 0))]))))[P]? = some (.lst (famD (fam ++ [([65 + i], decide (d6 = 0))]))) := at_set b1
    have c2 : (h6.set P (.lst (famD (fam ++ [([65 + i], decide (d6 = 0))]))))[P + 1]? = some (.lst (Kd.encL ks)) := by rw [List.getElem?_set_ne (by omega)]; exact b2
    have c3 := t6.set (n := P) (o := .lst (famD (fam ++ [([65 + i], decide (d6 = 0))]))) hP2
    have c4 : Keep h (h6.set P (.lst (famD (fam ++ [([65 + i], decide (d6 = 0))])))) := (k5.trans k6).set hPl
    revert c1 c2 c3 c4
    generalize h6.set P (.lst (famD (fam ++ [([65 + i], decide (d6 = 0))]))) = h7
    intro c1 c2 c3 c4
    clear b1 b2 a1 a2 t6 k6 t5 k5
    refine lsK.mk c2 ?_
    have fin : ∀ (k : Kd) (h8 : Hh), TT h8 → Keep h h8 → h8[P]? = some (.lst (famD (fam ++ [([65 + i], decide (d6 = 0))]))) → h8[P + 1]? = some (.lst (Kd.encL ks)) → (decide (d6 = 0) = true ↔ k ≠ .nil) → (k = .nil ∨ k.Ok n) →
        ∃ (fam' : List (List Nat × Bool)) (ks' : List Kd), (h8.set (P + 1) (.lst (Kd.encL ks ++ [k.enc])))[P]? = some (.lst (famD fam')) ∧ (h8.set (P + 1) (.lst (Kd.encL ks ++ [k.enc])))[P + 1]? = some (.lst (Kd.encL ks')) ∧ fam'.length = i + 1 ∧ ks'.length = i + 1 ∧ (∀ i p, fam'[i]? = some p → p.1 = [65 + i] ∧ ∃ k, ks'[i]? = some k ∧ (p.2 = true ↔ k ≠ .nil)) ∧ ∀ k ∈ ks', k = .nil ∨ k.Ok n := by
      intro k h8 t8 k8 e1 e2 hq0 ok
      refine ⟨fam ++ [([65 + i], decide (d6 = 0))], ks ++ [k], by rw [List.getElem?_set_ne (by omega)]; exact e1, by rw [at_set e2]; simp [kencL], by simp [l1], by simp [l2], fun j p hp => ?_, fun q hq => ?_⟩
      · rcases Nat.lt_or_ge j i with c | c
        · rw [List.getElem?_append_left (by omega)] at hp
          obtain ⟨z1, z2, z3, z4⟩ := hf j p hp
          exact ⟨z1, z2, by rw [List.getElem?_append_left (by omega)]; exact z3, z4⟩
        · have hj := (List.getElem?_eq_some_iff.mp hp).1
          simp [l1] at hj
          have : j = i := by omega
          subst this
          rw [List.getElem?_append_right (by omega), l1, Nat.sub_self] at hp
          simp only [List.getElem?_cons_zero, Option.some.injEq] at hp
          subst hp
          exact ⟨rfl, k, by rw [List.getElem?_append_right (by omega), l2, Nat.sub_self]; rfl, hq0⟩
      · rcases List.mem_append.mp hq with z | z
        · exact ho q z
        · rw [List.mem_singleton.mp z]
          exact ok
    repeat walk_at "pi"
    refine ifK.d (fun cd => ?_) fun cd => ?_
    · repeat walk_at "pi"
      refine (ih _ c3).mono fun r h8 ⟨t8, k8, k, er, ok⟩ => ?_
      subst er
      repeat walk_at "pi"
      have e2 := k8.at (by omega) c2
      refine Sat.append e2 (by rw [kencL, List.length_map, l2]; unfold SL; omega) ?_
      repeat walk_at "pi"
      exact ⟨t8.set (by omega), (c4.trans k8).set (by omega), ⟨_, _, rfl⟩, fin k h8 t8 (c4.trans k8) (k8.at (by omega) c1) e2 (by simp [cd, ok.nnil]) (.inr ok)⟩
    · repeat walk_at "pi"
      refine Sat.append c2 (by rw [kencL, List.length_map, l2]; unfold SL; omega) ?_
      repeat walk_at "pi"
      exact ⟨c3.set (by omega), c4.set (by omega), ⟨_, _, rfl⟩, fin .nil h7 c3 c4 c1 c2 (by simp [cd]) (.inl rfl)⟩
  · clear a1 a2 t4 k4
    intro e h' ⟨t5, k5, ⟨v4, v10, ee⟩, fam, ks, a1, a2, l1, l2, hf, ho⟩
    subst ee
    rw [rng_len] at l1 l2
    repeat walk_at "pi"
    refine Sat.tupL a1 ?_
    repeat walk_at "pi"
    refine Sat.tupL a2 ?_
    repeat walk_at "pi"
    exact ⟨t5, k5, .con fam ks, rfl, by omega, by omega, hf, by omega, ho⟩
theorem kind_ok (V : PatT T km kt kp ki kk kq kv kn kf ks) (f : Nat) : ∀ (n : Nat) {h : Hh}, TT h → Sat (sem T (f + n + 3) kk [.ref 1, .int (n : Nat)] h) (DrawnK n h)
  | 0, h, t => kind_step (n := 0) V t (.inl (by decide)) (fun q => absurd q (by decide))
  | n + 1, h, t => kind_step (g := f + n + 1) (n := n) V t (.inr rfl) fun _ h t => by
      have e : ((n + 1 : Nat) : Int) - 1 = (n : Nat) := by omega
      rw [e]
      exact kind_ok V f n t
theorem decStr_flat (i : Int) : (decStr i).all (· < 0x110000) = true := by
  unfold decStr
  rw [List.all_eq_true]
  intro c hc
  obtain ⟨x, _, rfl⟩ := List.mem_map.mp hc
  refine decide_eq_true ?_
  have := x.valid
  show x.val.toNat < 0x110000
  rcases this with h | h
  · have : x.val.toNat < 0xd800 := h
    omega
  · exact h.2
theorem name_flat (i : Int) : ([118] ++ decStr i).all (· < 0x110000) = true := by
  rw [List.all_append, decStr_flat]
  decide
theorem decStr_len {n : Nat} (h : n < 10 ^ 7) : (decStr (n : Int)).length ≤ 7 := by
  unfold decStr
  rw [List.length_map]
  have e : toString (Int.ofNat n) = Nat.repr n := rfl
  show (toString (Int.ofNat n)).toList.length ≤ 7
  rw [e, String.length_toList]
  exact (Nat.length_repr_le_iff (by decide)).mpr h
/-- all but the tape and N is as it was -/
def KB (N : Nat) (h h' : Hh) : Prop := h.length ≤ h'.length ∧ ∀ i, 2 ≤ i → i < h.length → i ≠ N → h'[i]? = h[i]?
theorem KB.refl (N : Nat) (h : Hh) : KB N h h := ⟨Nat.le_refl _, fun _ _ _ _ => rfl⟩
theorem KB.trans {N : Nat} {h h1 h2 : Hh} (a : KB N h h1) (b : KB N h1 h2) : KB N h h2 := ⟨Nat.le_trans a.1 b.1, fun i h2 hi hn => (b.2 i h2 (Nat.lt_of_lt_of_le hi a.1) hn).trans (a.2 i h2 hi hn)⟩
theorem Keep.kb {N : Nat} {h h' : Hh} (a : Keep h h') : KB N h h' := ⟨a.1, fun i h2 hi _ => a.2 i h2 hi⟩
theorem KB.set {N : Nat} {h h' : Hh} {o : Ob} (a : KB N h h') : KB N h (h'.set N o) := ⟨by simpa using a.1, fun i h2 hi hn => by
  rw [List.getElem?_set_ne (by omega)]
  exact a.2 i h2 hi hn⟩
theorem KB.at {N n : Nat} {h h' : Hh} {o : Ob} (a : KB N h h') (h2 : 2 ≤ n) (hn : n ≠ N) (e : h[n]? = some o) : h'[n]? = some o := by
  rw [a.2 n h2 (List.getElem?_eq_some_iff.mp e).1 hn]
  exact e
theorem KB.keep {N : Nat} {h0 h h' : Hh} (a : KB N h h') (b : Keep h0 h) (hN : h0.length ≤ N) : Keep h0 h' := ⟨Nat.le_trans b.1 a.1, fun i h2 hi => (a.2 i h2 (Nat.lt_of_lt_of_le hi b.1) (by omega)).trans (b.2 i h2 hi)⟩
/-- how many names a pattern of n levels may have, less the named parts around it -/
def wid : Nat → Nat
  | 0 => 1
  | n + 1 => 6 * (6 + wid n)
theorem wid_pos : ∀ n, 1 ≤ wid n
  | 0 => Nat.le_refl _
  | n + 1 => by unfold wid; omega
theorem nbL_append (ps qs : List Pt) : Pt.nbL (ps ++ qs) = Pt.nbL ps + Pt.nbL qs := by
  induction ps with
  | nil => simp [Pt.nbL]
  | cons p ps ih => simp only [List.cons_append, Pt.nbL, ih]; omega
def DrawnP (N : Nat) (ns : List D) (n a : Nat) (k : Kd) (h : Hh) (r : D) (h' : Hh) : Prop := TT h' ∧ KB N h h' ∧ ∃ (p : Pt) (ns' : List D), h'[N]? = some (.lst ns') ∧ ns'.length = ns.length + p.nb ∧ p.nb ≤ a + wid n ∧ r = p.enc ∧ HasP n k p ∧ p.dep ≤ 7 * n + a
theorem ksub {n : Nat} {ks : List Kd} (ho : ∀ k ∈ ks, k = .nil ∨ k.Ok n) {i : Nat} {k : Kd} (e : ks[i]? = some k) : k = .nil ∨ k.Ok n := ho k (List.mem_of_getElem? e)
theorem kencL_at {ks : List Kd} {i : Nat} {k : Kd} (e : ks[i]? = some k) : (Kd.encL ks)[i]? = some k.enc := by rw [kencL, List.getElem?_map, e]; rfl
/-- the inner pattern, if there is one -/
theorem pat_step {g n a : Nat} (V : PatT T km kt kp ki kk kq kv kn kf ks) {h : Hh} {k : Kd} {N : Nat} {ns : List D} (t : TT h) (ok : k.Ok n) (hN : 2 ≤ N) (hn : h[N]? = some (.lst ns)) (ha : 6 ≤ a + ns.length) (hb : ns.length + a + wid n ≤ 1000000)
    (iha : ∀ (a' : Nat) (h : Hh) (ns : List D), a = a' + 1 → TT h → h[N]? = some (.lst ns) → 6 ≤ a' + ns.length → ns.length + a' + wid n ≤ 1000000 → Sat (sem T (g + 3) kq [.ref 1, k.enc, .ref N] h) (DrawnP N ns n a' k h))
    (ihn : ∀ (n' : Nat) (h : Hh) (ns : List D) (k : Kd), n = n' + 1 → k.Ok n' → TT h → h[N]? = some (.lst ns) → 6 ≤ 6 + ns.length → ns.length + 6 + wid n' ≤ 1000000 → Sat (sem T (g + 3) kq [.ref 1, k.enc, .ref N] h) (DrawnP N ns n' 6 k h)) :
    Sat (sem T (g + 4) kq [.ref 1, k.enc, .ref N] h) (DrawnP N ns n a k h) := by
  have w1 := wid_pos n
  refine .startA V.pat rfl rfl ?_
  unfold patternB
  repeat walk_at "pi"
  refine (V.tk t (by decide)).mono fun r h1 ⟨t1, k1, d, er, d0, d1⟩ => ?_
  subst er
  have hn1 := k1.at hN hn
  repeat walk_at "pi"
  refine ifK.d (fun c0 => ?_) fun c0 => ?_
  · repeat walk_at "pi"
    exact ⟨t1, k1.kb, .any, ns, hn1, rfl, Nat.zero_le _, rfl, .any, Nat.zero_le _⟩
  have hlen : (decStr ((ns.length : Nat) : Int)).length ≤ 7 := decStr_len (by omega)
  have hlog : ((ns.length : Nat) : Int).natAbs.log2 < 1920 := Nat.lt_trans (log_lt (k := 20) (by
    have : ((ns.length : Nat) : Int).natAbs = ns.length := by omega
    omega) (by decide)) (by decide)
  repeat walk_at "pi"
  refine ifK.d (fun c1 => ?_) fun c1 => ?_
  · repeat walk_at "pi"
    refine lsK.mk hn1 ?_
    repeat walk_at "pi"
    refine Sat.lenL hn1 ?_
    repeat walk_at "pi"
    refine Sat.str hlog ?_
    refine Sat.addS (by simp; unfold SL; omega) ?_
    repeat walk_at "pi"
    refine Sat.append hn1 (by unfold SL; omega) ?_
    repeat walk_at "pi"
    refine Sat.ixL (at_set hn1) (atIx_last _ _) ?_
    repeat walk_at "pi"
    exact ⟨t1.set hN, k1.kb.set, .var _, _, at_set hn1, by simp [Pt.nb], by simp only [Pt.nb]; omega, rfl, .var (hs := name_flat _), Nat.zero_le _⟩
  repeat walk_at "pi"
  have hpar : ∀ (QQ : Bool → Hh → Prop), (d = 2 ∧ ns.length < 6 → QQ true h1) → QQ false h1 → (ifK (decide (d = 2)) (Sat (tV (dBin cLt (dArgs bLen (aCons (dVar 2) aNil)) (dC (.int 6))) [some (.ref 1), some k.enc, some (.ref N), some (.int d), none, none, none, none, none] h1) QQ) (QQ false h1)) := by
    intro QQ q1 q2
    refine ifK.d (fun c => ?_) fun c => q2
    repeat walk_at "pi"
    refine Sat.lenL hn1 ?_
    repeat walk_at "pi"
    by_cases z : ns.length < 6
    · rw [decide_eq_true (by omega)]
      exact q1 ⟨c, z⟩
    · rw [decide_eq_false (by omega)]
      exact q2
  refine hpar _ (fun ⟨c2, c3⟩ => ?_) ?_
  · refine ifK.t rfl ?_
    repeat walk_at "pi"
    refine lsK.mk hn1 ?_
    repeat walk_at "pi"
    refine Sat.lenL hn1 ?_
    repeat walk_at "pi"
    refine Sat.str hlog ?_
    refine Sat.addS (by simp; unfold SL; omega) ?_
    repeat walk_at "pi"
    refine Sat.append hn1 (by unfold SL; omega) ?_
    repeat walk_at "pi"
    refine Sat.ixL (at_set hn1) (atIx_last _ _) ?_
    repeat walk_at "pi"
    obtain ⟨a', rfl⟩ : ∃ a', a = a' + 1 := ⟨a - 1, by omega⟩
    refine (iha a' _ _ rfl (t1.set hN) (at_set hn1) (by simp; omega) (by simp; omega)).mono fun r h2 ⟨t2, k2, p, ns', e1, e2, e3, er, e4, e5⟩ => ?_
    subst er
    repeat walk_at "pi"
    exact ⟨t2, (k1.kb.set).trans k2, .as _ p, ns', e1, by rw [e2]; simp only [List.length_append, List.length_singleton, Pt.nb]; omega, by simp only [Pt.nb]; omega, rfl, .as e4 (hs := name_flat _), by simp only [Pt.dep]; omega⟩
  refine ifK.f rfl ?_
  clear hpar
  cases k with
  | nil => exact absurd rfl ok.nnil
  | int =>
    simp only [Kd.enc]
    repeat walk_at "pi"
    refine (integer_ok V t1 (by decide) (by decide)).mono fun r h2 ⟨t2, k2, i, er, i0, i1⟩ => ?_
    subst er
    repeat walk_at "pi"
    exact ⟨t2, (k1.trans k2).kb, .int i, ns, k2.at hN hn1, rfl, Nat.zero_le _, rfl, .int i0 i1, Nat.zero_le _⟩
  | tup ks =>
    cases n with
    | zero => exact ok.elim
    | succ n =>
    obtain ⟨o1, _, o2⟩ := ok
    simp only [Kd.enc]
    repeat walk_at "pi"
    have hw : wid (n + 1) = 6 * (6 + wid n) := rfl
    refine Sat.compIx (fun i acc h' => TT h' ∧ KB N h h' ∧ ∃ (ps : List Pt) (ns' : List D), h'[N]? = some (.lst ns') ∧ ns'.length = ns.length + Pt.nbL ps ∧ Pt.nbL ps ≤ i * (6 + wid n) ∧ acc = Pt.encL ps ∧ ps.length = i ∧ (∀ (j : Nat) (k : Kd) (p : Pt), ks[j]? = some k → ps[j]? = some p → HasP n k p) ∧ Pt.depL ps ≤ 7 * n + 6) ⟨t1, k1.kb, [], ns, hn1, rfl, by simp [Pt.nbL], rfl, rfl, by simp, by simp [Pt.depL]⟩ (fun _ _ _ _ => rfl) (fun i d acc h3 hd ⟨t3, k3, ps, ns', e1, e2, e3, ea, hl, hp, hdp⟩ => ?_) fun acc h3 ⟨t3, k3, ps, ns', e1, e2, e3, ea, hl, hp, hdp⟩ => ?_
    · have hi : i < ks.length := by simpa [kencL] using (List.getElem?_eq_some_iff.mp hd).1
      have hd' : d = (ks[i]).enc := by
        have := kencL_at (List.getElem?_eq_getElem hi)
        rw [items_its, this] at hd
        exact (Option.some.inj hd).symm
      subst hd'
      repeat walk_at "pi"
      have h6 : i * (6 + wid n) ≤ 5 * (6 + wid n) := Nat.mul_le_mul_right _ (by omega)
      refine (ihn n h3 ns' ks[i] rfl (o2 _ (List.getElem_mem _)) t3 e1 (by omega) (by omega)).mono fun r h4 ⟨t4, k4, p, ns2, g1, g2, g3, er, g4, g5⟩ => ?_
      subst er ea
      refine ⟨by rw [pencL, List.length_map]; unfold SL; omega, t4, k3.trans k4, ps ++ [p], ns2, g1, by rw [nbL_append, g2, e2]; simp [Pt.nbL]; omega, by rw [nbL_append, Nat.succ_mul]; simp [Pt.nbL]; omega, by simp [pencL], by simp [hl], fun j k q hk hq => ?_, ?_⟩
      · rcases Nat.lt_or_ge j i with c | c
        · rw [List.getElem?_append_left (by omega)] at hq
          exact hp j k q hk hq
        · have hj := (List.getElem?_eq_some_iff.mp hq).1
          simp [hl] at hj
          have : j = i := by omega
          subst this
          rw [List.getElem?_append_right (by omega), hl, Nat.sub_self] at hq
          simp only [List.getElem?_cons_zero, Option.some.injEq] at hq
          subst hq
          rw [List.getElem?_eq_getElem hi] at hk
          cases hk
          exact g4
      · rw [pdepL_at] at hdp ⊢
        intro q hq
        rcases List.mem_append.mp hq with z | z
        · exact hdp q z
        · rw [List.mem_singleton.mp z]
          exact g5
    · have hl' : ps.length = ks.length := by rw [hl]; simp [kencL]
      have hle : (Wk.its (Kd.encL ks)).items.length = ks.length := by simp [kencL]
      rw [hle] at e3
      subst ea
      repeat walk_at "pi"
      have h6 : ks.length * (6 + wid n) ≤ 6 * (6 + wid n) := Nat.mul_le_mul_right _ o1
      exact ⟨t3, k3, .tup ps, ns', e1, e2, by simp only [Pt.nb]; omega, rfl, .tup hl'.symm hp, by simp only [Pt.dep]; omega⟩
  | pkt ks =>
    cases n with
    | zero => exact ok.elim
    | succ n =>
    obtain ⟨o1, o2⟩ := ok
    have hw : wid (n + 1) = 6 * (6 + wid n) := rfl
    simp only [Kd.enc]
    repeat walk_at "pi"
    refine (V.tk t1 (by decide)).mono fun r h2 ⟨t2, k2, d2, er, e0, e1⟩ => ?_
    subst er
    obtain ⟨i, rfl⟩ : ∃ i : Nat, d2 = i := ⟨d2.toNat, by omega⟩
    have hi : i < ks.length := by omega
    refine Sat.ixT (atIx_nat (kencR_at (List.getElem?_eq_getElem hi))) ?_
    rw [Nat.zero_add]
    repeat walk_at "pi"
    have hn2 := k2.at hN hn1
    cases hk : ks[i] with
    | nil =>
      simp only [Kd.enc]
      repeat walk_at "pi"
      exact ⟨t2, (k1.trans k2).kb, .pkt i .nil, ns, hn2, rfl, Nat.zero_le _, rfl, .pkt0 (by rw [List.getElem?_eq_getElem hi, hk]), by simp only [Pt.dep]; omega⟩
    | _ =>
      rw [← hk]
      have hq : ks[i].Ok n := (o2 _ (List.getElem_mem _)).resolve_left (by rw [hk]; intro z; cases z)
      obtain ⟨x, xs, ex⟩ := enc_ne hq.nnil
      rw [ex]
      repeat walk_at "pi"
      rw [← ex]
      refine (ihn n h2 ns ks[i] rfl hq t2 hn2 (by omega) (by omega)).mono fun r h4 ⟨t4, k4, p, ns2, g1, g2, g3, er, g4, g5⟩ => ?_
      subst er
      repeat walk_at "pi"
      exact ⟨t4, (k1.trans k2).kb.trans k4, .pkt i p, ns2, g1, g2, by simp only [Pt.nb]; omega, rfl, .pkt1 (List.getElem?_eq_getElem hi) hq.nnil g4, by simp only [Pt.dep]; omega⟩
  | con fam ks =>
    cases n with
    | zero => exact ok.elim
    | succ n =>
    obtain ⟨o1, o2, o3, o4, o5⟩ := ok
    have hw : wid (n + 1) = 6 * (6 + wid n) := rfl
    simp only [Kd.enc]
    repeat walk_at "pi"
    have hfl : (famD fam).length = fam.length := by simp [famD]
    rw [hfl]
    refine (V.tk t1 (by omega) (by
      refine Nat.lt_trans (log_lt (k := 10) ?_ (by decide)) (by decide)
      omega)).mono fun r h2 ⟨t2, k2, d2, er, e0, e1⟩ => ?_
    subst er
    obtain ⟨i, rfl⟩ : ∃ i : Nat, d2 = i := ⟨d2.toNat, by omega⟩
    have hi : i < ks.length := by omega
    repeat walk_at "pi"
    refine Sat.ixT (atIx_nat (kencL_at (List.getElem?_eq_getElem hi))) ?_
    repeat walk_at "pi"
    have hn2 := k2.at hN hn1
    cases hk : ks[i] with
    | nil =>
      simp only [Kd.enc]
      repeat walk_at "pi"
      exact ⟨t2, (k1.trans k2).kb, .con fam i .nil, ns, hn2, rfl, Nat.zero_le _, rfl, .con0 (by rw [List.getElem?_eq_getElem hi, hk]), by simp only [Pt.dep]; omega⟩
    | _ =>
      rw [← hk]
      have hq : ks[i].Ok n := (o5 _ (List.getElem_mem _)).resolve_left (by rw [hk]; intro z; cases z)
      obtain ⟨x, xs, ex⟩ := enc_ne hq.nnil
      rw [ex]
      repeat walk_at "pi"
      rw [← ex]
      refine (ihn n h2 ns ks[i] rfl hq t2 hn2 (by omega) (by omega)).mono fun r h4 ⟨t4, k4, p, ns2, g1, g2, g3, er, g4, g5⟩ => ?_
      subst er
      repeat walk_at "pi"
      exact ⟨t4, (k1.trans k2).kb.trans k4, .con fam i p, ns2, g1, g2, by simp only [Pt.nb]; omega, rfl, .con1 (List.getElem?_eq_getElem hi) hq.nnil g4, by simp only [Pt.dep]; omega⟩
theorem pat_ok (V : PatT T km kt kp ki kk kq kv kn kf ks) : ∀ (n a f : Nat) {h : Hh} {k : Kd} {N : Nat} {ns : List D}, TT h → k.Ok n → 2 ≤ N → h[N]? = some (.lst ns) → 6 ≤ a + ns.length → ns.length + a + wid n ≤ 1000000 → Sat (sem T (f + 7 * n + a + 4) kq [.ref 1, k.enc, .ref N] h) (DrawnP N ns n a k h)
  | n, a, f, h, k, N, ns, t, ok, hN, hn, ha, hb => by
    refine pat_step (g := f + 7 * n + a) V t ok hN hn ha hb (fun a' h ns e t2 hn2 ha2 hb2 => ?_) fun n' h ns k e ok2 t2 hn2 ha2 hb2 => ?_
    · subst e
      have := pat_ok V n a' f (h := h) (k := k) (N := N) (ns := ns) t2 ok hN hn2 ha2 hb2
      rw [show f + 7 * n + (a' + 1) + 3 = f + 7 * n + a' + 4 by omega]
      exact this
    · subst e
      have := pat_ok V n' 6 (f + a) (h := h) (k := k) (N := N) (ns := ns) t2 ok2 hN hn2 ha2 hb2
      rw [show f + 7 * (n' + 1) + a + 3 = f + a + 7 * n' + 6 + 4 by omega]
      exact this
  termination_by n a => (n, a)
/-! ### values -/
def DrawnQ (num : Nat → Int) (n : Nat) (k : Kd) (h : Hh) (r : D) (h' : Hh) : Prop := TT h' ∧ Keep h h' ∧ ∃ v : Vq, r = v.enc ∧ HasV num n k v
def numsAt (num : Nat → Int) (M : Nat) (h : Hh) : Prop := h[M]? = some (.lst [.int (num 0), .int (num 1), .int (num 2)])
theorem val_step {g n : Nat} {num : Nat → Int} (V : PatT T km kt kp ki kk kq kv kn kf ks) {h : Hh} {k : Kd} {M : Nat} (t : TT h) (ok : k.Ok n) (hM : 2 ≤ M) (hm : numsAt num M h)
    (ihn : ∀ (n' : Nat) (h : Hh) (k : Kd), n = n' + 1 → k.Ok n' → TT h → numsAt num M h → Sat (sem T (g + 3) kv [.ref 1, k.enc, .ref M] h) (DrawnQ num n' k h)) :
    Sat (sem T (g + 4) kv [.ref 1, k.enc, .ref M] h) (DrawnQ num n k h) := by
  refine .startA V.val rfl rfl ?_
  unfold valuePB
  cases k with
  | nil => exact absurd rfl ok.nnil
  | int =>
    simp only [Kd.enc]
    repeat walk_at "pi"
    refine (integer_ok V t (by decide) (by decide)).mono fun r h2 ⟨t2, k2, i, er, i0, i1⟩ => ?_
    subst er
    repeat walk_at "pi"
    exact ⟨t2, k2, .int i, rfl, by cases n <;> exact ⟨i0, i1⟩⟩
  | tup ks =>
    cases n with
    | zero => exact ok.elim
    | succ n =>
    obtain ⟨o1, _, o2⟩ := ok
    simp only [Kd.enc]
    repeat walk_at "pi"
    refine Sat.compIx (fun i acc h' => TT h' ∧ Keep h h' ∧ ∃ (vs : List Vq), acc = Vq.encL vs ∧ vs.length = i ∧ (∀ (j : Nat) (k : Kd) (v : Vq), ks[j]? = some k → vs[j]? = some v → HasV num n k v)) ⟨t, Keep.refl _, [], rfl, rfl, by simp⟩ (fun _ _ _ _ => rfl) (fun i d acc h3 hd ⟨t3, k3, vs, ea, hl, hp⟩ => ?_) fun acc h3 ⟨t3, k3, vs, ea, hl, hp⟩ => ?_
    · have hi : i < ks.length := by simpa [kencL] using (List.getElem?_eq_some_iff.mp hd).1
      have hd' : d = (ks[i]).enc := by
        have := kencL_at (List.getElem?_eq_getElem hi)
        rw [items_its, this] at hd
        exact (Option.some.inj hd).symm
      subst hd'
      repeat walk_at "pi"
      refine (ihn n h3 ks[i] rfl (o2 _ (List.getElem_mem _)) t3 (k3.at hM hm)).mono fun r h4 ⟨t4, k4, v, er, g4⟩ => ?_
      subst er ea
      refine ⟨by rw [vencL, List.length_map]; unfold SL; omega, t4, k3.trans k4, vs ++ [v], by simp [vencL], by simp [hl], fun j k q hk hq => ?_⟩
      rcases Nat.lt_or_ge j i with c | c
      · rw [List.getElem?_append_left (by omega)] at hq
        exact hp j k q hk hq
      · have hj := (List.getElem?_eq_some_iff.mp hq).1
        simp [hl] at hj
        have : j = i := by omega
        subst this
        rw [List.getElem?_append_right (by omega), hl, Nat.sub_self] at hq
        simp only [List.getElem?_cons_zero, Option.some.injEq] at hq
        subst hq
        rw [List.getElem?_eq_getElem hi] at hk
        cases hk
        exact g4
    · have hl' : vs.length = ks.length := by rw [hl]; simp [kencL]
      subst ea
      repeat walk_at "pi"
      exact ⟨t3, k3, .tup vs, rfl, hl'.symm, hp⟩
  | pkt ks =>
    cases n with
    | zero => exact ok.elim
    | succ n =>
    obtain ⟨o1, o2⟩ := ok
    simp only [Kd.enc]
    repeat walk_at "pi"
    refine (V.tk t (by decide)).mono fun r h2 ⟨t2, k2, d2, er, e0, e1⟩ => ?_
    subst er
    have hm2 := k2.at hM hm
    repeat walk_at "pi"
    refine ifK.d (fun c => ?_) fun c => ?_
    · repeat walk_at "pi"
      exact ⟨t2, k2, .pkt 77 [69] .nil, rfl, rfl, .inl ⟨rfl, rfl⟩⟩
    obtain ⟨i, rfl⟩ : ∃ i : Nat, d2 = i := ⟨d2.toNat, by omega⟩
    have hi : i < ks.length := by omega
    repeat walk_at "pi"
    refine Sat.ixT (atIx_nat (kencR_at (List.getElem?_eq_getElem hi))) ?_
    rw [Nat.zero_add]
    repeat walk_at "pi"
    refine Sat.ixL (z := .int (num i)) hm2 (atIx_nat (by
      have : i = 0 ∨ i = 1 ∨ i = 2 := by omega
      rcases this with rfl | rfl | rfl <;> rfl)) ?_
    repeat walk_at "pi"
    cases hk : ks[i] with
    | nil =>
      simp only [Kd.enc]
      repeat walk_at "pi"
      exact ⟨t2, k2, .pkt (num i) [69] .nil, rfl, rfl, .inr ⟨i, .nil, by rw [List.getElem?_eq_getElem hi, hk], rfl, .inl ⟨rfl, rfl⟩⟩⟩
    | _ =>
      rw [← hk]
      have hq : ks[i].Ok n := (o2 _ (List.getElem_mem _)).resolve_left (by rw [hk]; intro z; cases z)
      obtain ⟨x, xs, ex⟩ := enc_ne hq.nnil
      rw [ex]
      repeat walk_at "pi"
      rw [← ex]
      refine (ihn n h2 ks[i] rfl hq t2 hm2).mono fun r h4 ⟨t4, k4, v, er, g4⟩ => ?_
      subst er
      repeat walk_at "pi"
      exact ⟨t4, k2.trans k4, .pkt (num i) [69] v, rfl, rfl, .inr ⟨i, ks[i], List.getElem?_eq_getElem hi, rfl, .inr g4⟩⟩
  | con fam ks =>
    cases n with
    | zero => exact ok.elim
    | succ n =>
    obtain ⟨o1, o2, o3, o4, o5⟩ := ok
    simp only [Kd.enc]
    repeat walk_at "pi"
    have hfl : (famD fam).length = fam.length := by simp [famD]
    rw [hfl]
    refine (V.tk t (by omega) (by
      refine Nat.lt_trans (log_lt (k := 10) ?_ (by decide)) (by decide)
      omega)).mono fun r h2 ⟨t2, k2, d2, er, e0, e1⟩ => ?_
    subst er
    have hm2 := k2.at hM hm
    obtain ⟨i, rfl⟩ : ∃ i : Nat, d2 = i := ⟨d2.toNat, by omega⟩
    have hi : i < ks.length := by omega
    have hif : i < fam.length := by omega
    have hfa : (famD fam)[i]? = some (.tup [.str fam[i].1, .bl fam[i].2]) := by simp [famD, List.getElem?_eq_getElem hif]
    repeat walk_at "pi"
    refine Sat.ixT (atIx_nat (kencL_at (List.getElem?_eq_getElem hi))) ?_
    repeat walk_at "pi"
    refine Sat.ixT (atIx_nat hfa) ?_
    repeat walk_at "pi"
    cases hk : ks[i] with
    | nil =>
      simp only [Kd.enc]
      repeat walk_at "pi"
      exact ⟨t2, k2, .con i fam[i].1 .nil, rfl, .nil, fam[i], by rw [List.getElem?_eq_getElem hi, hk], List.getElem?_eq_getElem hif, rfl, .inl ⟨rfl, rfl⟩⟩
    | _ =>
      rw [← hk]
      have hq : ks[i].Ok n := (o5 _ (List.getElem_mem _)).resolve_left (by rw [hk]; intro z; cases z)
      obtain ⟨x, xs, ex⟩ := enc_ne hq.nnil
      rw [ex]
      repeat walk_at "pi"
      rw [← ex]
      refine (ihn n h2 ks[i] rfl hq t2 hm2).mono fun r h4 ⟨t4, k4, v, er, g4⟩ => ?_
      subst er
      repeat walk_at "pi"
      exact ⟨t4, k2.trans k4, .con i fam[i].1 v, rfl, ks[i], fam[i], List.getElem?_eq_getElem hi, List.getElem?_eq_getElem hif, rfl, .inr g4⟩
theorem val_ok (V : PatT T km kt kp ki kk kq kv kn kf ks) {num : Nat → Int} : ∀ (n f : Nat) {h : Hh} {k : Kd} {M : Nat}, TT h → k.Ok n → 2 ≤ M → numsAt num M h → Sat (sem T (f + n + 4) kv [.ref 1, k.enc, .ref M] h) (DrawnQ num n k h)
  | 0, f, h, k, M, t, ok, hM, hm => val_step (g := f) V t ok hM hm fun n' h k e => by cases e
  | n + 1, f, h, k, M, t, ok, hM, hm => val_step (g := f + n + 1) V t ok hM hm fun n' h k e ok2 t2 hm2 => by
    cases e
    exact val_ok V n f t2 ok2 hM hm2
mutual
/-- no part is None -/
def Vq.whole : Vq → Bool
  | .tup vs => Vq.wholeL vs
  | .con _ _ .nil => true
  | .con _ _ v => v.whole
  | .pkt _ _ .nil => true
  | .pkt _ _ v => v.whole
  | .nil => false
  | .oth t _ => !(decide (t = t_int) || (decide (t = t_tuple) || (decide (t = t_con) || decide (t = t_packet))))
  | .int _ => true
def Vq.wholeL : List Vq → Bool
  | [] => true
  | v :: vs => v.whole && Vq.wholeL vs
end
/-! ### what fits -/
def Pt.isNil : Pt → Bool
  | .nil => true
  | _ => false
def Vq.isNil : Vq → Bool
  | .nil => true
  | _ => false
theorem whole_con {a : Nat} {nm : List Nat} {v : Vq} : Vq.whole (.con a nm v) = (v.isNil || v.whole) := by cases v <;> rfl
theorem whole_pkt {a : Int} {nm : List Nat} {v : Vq} : Vq.whole (.pkt a nm v) = (v.isNil || v.whole) := by cases v <;> rfl
theorem wholeL_at {vs : List Vq} (h : Vq.wholeL vs = true) {i : Nat} {v : Vq} (e : vs[i]? = some v) : Vq.whole v = true := by
  induction vs generalizing i with
  | nil => simp at e
  | cons w vs ih =>
    rw [Vq.wholeL, Bool.and_eq_true] at h
    cases i with
    | zero =>
      simp at e
      rw [← e]
      exact h.1
    | succ i => exact ih h.2 (by simpa using e)
theorem wholeL_of {vs : List Vq} (h : ∀ v ∈ vs, Vq.whole v = true) : Vq.wholeL vs = true := by
  induction vs with
  | nil => rfl
  | cons e es ih => rw [Vq.wholeL, h e (by simp), ih fun x hx => h x (by simp [hx])]; rfl
theorem whole_ne {v : Vq} (h : Vq.whole v = true) : v.isNil = false := by cases v <;> first | rfl | cases h
theorem tag_v {v : Vq} (h : Vq.whole v = true) : ∃ t xs, v.enc = .tup (.str t :: xs) ∧ (t = t_int → ∃ i, v = .int i) ∧ (t = t_tuple → ∃ vs, v = .tup vs) ∧ (t = t_con → ∃ a nm w, v = .con a nm w) ∧ (t = t_packet → ∃ n nm w, v = .pkt n nm w) := by
  cases v with
  | nil => cases h
  | int i => exact ⟨_, _, rfl, fun _ => ⟨_, rfl⟩, fun z => absurd z (by decide), fun z => absurd z (by decide), fun z => absurd z (by decide)⟩
  | tup i => exact ⟨_, _, rfl, fun z => absurd z (by decide), fun _ => ⟨_, rfl⟩, fun z => absurd z (by decide), fun z => absurd z (by decide)⟩
  | con a nm w => exact ⟨_, _, rfl, fun z => absurd z (by decide), fun z => absurd z (by decide), fun _ => ⟨_, _, _, rfl⟩, fun z => absurd z (by decide)⟩
  | pkt a nm w => exact ⟨_, _, rfl, fun z => absurd z (by decide), fun z => absurd z (by decide), fun z => absurd z (by decide), fun _ => ⟨_, _, _, rfl⟩⟩
  | oth t ds =>
    simp only [Vq.whole, Bool.not_eq_true', Bool.or_eq_false_iff, decide_eq_false_iff_not] at h
    exact ⟨_, _, rfl, fun z => absurd z h.1, fun z => absurd z h.2.1, fun z => absurd z h.2.2.1, fun z => absurd z h.2.2.2⟩
mutual
/-- the bindings, and whether the value fits -/
def fitQ (num : Nat → Option Int) : Pt → Vq → List D × Bool
  | .any, _ => ([], true)
  | .var s, v => ([.tup [.str s, v.enc]], true)
  | .as s p, v => (.tup [.str s, v.enc] :: (fitQ num p v).1, (fitQ num p v).2)
  | .int i, .int j => ([], decide (j = i))
  | .tup ps, .tup vs => if ps.length = vs.length then fitQL num ps vs else ([], false)
  | .pkt i p, .pkt n _ v => if num i = some n then (if p.isNil = v.isNil then (if p.isNil = true then ([], true) else fitQ num p v) else ([], false)) else ([], false)
  | .con _ a p, .con b _ v => if b = a then (if p.isNil = v.isNil then (if p.isNil = true then ([], true) else fitQ num p v) else ([], false)) else ([], false)
  | _, _ => ([], false)
def fitQL (num : Nat → Option Int) : List Pt → List Vq → List D × Bool
  | p :: ps, v :: vs => if (fitQ num p v).2 = true then ((fitQ num p v).1 ++ (fitQL num ps vs).1, (fitQL num ps vs).2) else ((fitQ num p v).1, false)
  | _, _ => ([], true)
end
theorem isN_p (p : Pt) : isN p.enc = some p.isNil := by cases p <;> rfl
theorem isN_v (v : Vq) : isN v.enc = some v.isNil := by cases v <;> rfl
mutual
theorem fitQ_nb (num : Nat → Option Int) : ∀ (p : Pt) (v : Vq), (fitQ num p v).1.length ≤ p.nb
  | .nil, v => by cases v <;> simp [fitQ]
  | .any, v => by simp [fitQ]
  | .var s, v => by simp [fitQ, Pt.nb]
  | .as s p, v => by
    have := fitQ_nb num p v
    simp only [fitQ, Pt.nb, List.length_cons]
    omega
  | .int i, v => by cases v <;> simp [fitQ]
  | .tup ps, v => by
    cases v <;> simp only [fitQ, List.length_nil, Nat.zero_le]
    rename_i vs
    split
    · exact fitQL_nb num ps vs
    · exact Nat.zero_le _
  | .pkt i p, v => by
    cases v <;> simp only [fitQ, List.length_nil, Nat.zero_le]
    rename_i n nm v
    have := fitQ_nb num p v
    split
    · split
      · split
        · exact Nat.zero_le _
        · exact this
      · exact Nat.zero_le _
    · exact Nat.zero_le _
  | .con fam a p, v => by
    cases v <;> simp only [fitQ, List.length_nil, Nat.zero_le]
    rename_i n nm v
    have := fitQ_nb num p v
    split
    · split
      · split
        · exact Nat.zero_le _
        · exact this
      · exact Nat.zero_le _
    · exact Nat.zero_le _
theorem fitQL_nb (num : Nat → Option Int) : ∀ (ps : List Pt) (vs : List Vq), (fitQL num ps vs).1.length ≤ Pt.nbL ps
  | [], vs => by cases vs <;> simp [fitQL]
  | p :: ps, [] => by simp [fitQL]
  | p :: ps, v :: vs => by
    have h1 := fitQ_nb num p v
    have h2 := fitQL_nb num ps vs
    simp only [fitQL, Pt.nbL]
    split
    · simp only [List.length_append]
      omega
    · simp only
      omega
end
/-- fs grows by the bindings; all else is as it was -/
def FitR (N : Nat) (fs : List D) (res : List D × Bool) (h : Hh) (r : D) (h' : Hh) : Prop := But N h h' ∧ h'[N]? = some (.lst (fs ++ res.1)) ∧ r = .bl res.2
theorem fitQL_at {num : Nat → Option Int} {ps : List Pt} {vs : List Vq} {i : Nat} {p : Pt} {v : Vq} (hp : ps[i]? = some p) (hv : vs[i]? = some v) :
    fitQL num (ps.drop i) (vs.drop i) = if (fitQ num p v).2 = true then ((fitQ num p v).1 ++ (fitQL num (ps.drop (i + 1)) (vs.drop (i + 1))).1, (fitQL num (ps.drop (i + 1)) (vs.drop (i + 1))).2) else ((fitQ num p v).1, false) := by
  obtain ⟨h1, e1⟩ := List.getElem?_eq_some_iff.mp hp
  obtain ⟨h2, e2⟩ := List.getElem?_eq_some_iff.mp hv
  rw [List.drop_eq_getElem_cons h1, List.drop_eq_getElem_cons h2, e1, e2, fitQL]
theorem nbL_at : ∀ {ps : List Pt} {i : Nat} {p : Pt}, ps[i]? = some p → p.nb + Pt.nbL (ps.drop (i + 1)) = Pt.nbL (ps.drop i)
  | [], _, _, e => by simp at e
  | q :: ps, 0, p, e => by
    simp at e
    subst e
    simp [Pt.nbL]
  | q :: ps, i + 1, p, e => by
    simpa using nbL_at (ps := ps) (i := i) (p := p) (by simpa using e)
theorem pencL_at {ps : List Pt} {i : Nat} {p : Pt} (e : ps[i]? = some p) : (Pt.encL ps)[i]? = some p.enc := by rw [pencL, List.getElem?_map, e]; rfl
theorem vencL_at {vs : List Vq} {i : Nat} {v : Vq} (e : vs[i]? = some v) : (Vq.encL vs)[i]? = some v.enc := by rw [vencL, List.getElem?_map, e]; rfl
theorem pencL_len (ps : List Pt) : (Pt.encL ps).length = ps.length := by rw [pencL, List.length_map]
theorem vencL_len (vs : List Vq) : (Vq.encL vs).length = vs.length := by rw [vencL, List.length_map]
theorem idx_path {i : Nat} (hi : i < 3) : idxOf (pathD i) [pathD 0, pathD 1, pathD 2] = some i := by
  have : i = 0 ∨ i = 1 ∨ i = 2 := by omega
  rcases this with rfl | rfl | rfl <;> rfl
theorem number_ok (V : PatT T km kt kp ki kk kq kv kn kf ks) {num : Nat → Int} {h : Hh} {M i : Nat} (hi : i < 3) (hm : numsAt num M h) : Sat (sem T (f + 2) kn [pathD i, .ref M] h) fun r h' => r = .int (num i) ∧ h' = h ++ [.lst [pathD 0, pathD 1, pathD 2]] := by
  refine .startA V.num rfl rfl ?_
  unfold numberB
  repeat walk_at "pi"
  refine (paths_ok V).mono fun r h2 ⟨er, eh⟩ => ?_
  subst er eh
  repeat walk_at "pi"
  refine lsK.mk at_push ?_
  repeat walk_at "pi"
  refine Sat.index at_push (by
    have : i = 0 ∨ i = 1 ∨ i = 2 := by omega
    rcases this with rfl | rfl | rfl <;> decide) (idx_path hi) ?_
  refine Sat.ixL (z := .int (num i)) (Ext.push.at hm) (atIx_nat (by
      have : i = 0 ∨ i = 1 ∨ i = 2 := by omega
      rcases this with rfl | rfl | rfl <;> rfl)) ?_
  repeat walk_at "pi"
  exact ⟨rfl, rfl⟩
theorem hasV_ne {num : Nat → Int} {n : Nat} {k : Kd} {v : Vq} (h : HasV num n k v) : v.isNil = false := by
  cases v <;> first
    | rfl
    | (cases n <;> cases k <;> exact h.elim)
theorem hasP_ne {n : Nat} {k : Kd} {p : Pt} (h : HasP n k p) : p.isNil = false := by cases h <;> rfl
/-- paths of one number have one kind -/
def Kd.Cl (num : Nat → Int) : Nat → Kd → Prop
  | n + 1, .tup ks => ∀ k ∈ ks, Kd.Cl num n k
  | n + 1, .pkt ks => (∀ (i j : Nat) (ki kj : Kd), ks[i]? = some ki → ks[j]? = some kj → num i = num j → ki = kj) ∧ ∀ k ∈ ks, Kd.Cl num n k
  | n + 1, .con _ ks => ∀ k ∈ ks, Kd.Cl num n k
  | _, _ => True
theorem Kd.cl_nil {num : Nat → Int} (n : Nat) : Kd.Cl num n .nil := by cases n <;> trivial
theorem Kd.cl_inj {num : Nat → Int} (hi : ∀ i j, i < 3 → j < 3 → num i = num j → i = j) : ∀ (n : Nat) (k : Kd), k.Ok n → Kd.Cl num n k
  | 0, k, ok => by cases k <;> trivial
  | n + 1, k, ok => by
    cases k with
    | nil => trivial
    | int => trivial
    | tup ks => exact fun q hq => Kd.cl_inj hi n q (ok.2.2 q hq)
    | pkt ks =>
      refine ⟨fun i j ki kj h1 h2 e => ?_, fun q hq => ?_⟩
      · have l1 := (List.getElem?_eq_some_iff.mp h1).1
        have l2 := (List.getElem?_eq_some_iff.mp h2).1
        have := hi i j (by have := ok.1; omega) (by have := ok.1; omega) e
        subst this
        rw [h1] at h2
        exact Option.some.inj h2
      · rcases ok.2 q hq with rfl | o
        · exact Kd.cl_nil n
        · exact Kd.cl_inj hi n q o
    | con fam ks =>
      intro q hq
      rcases ok.2.2.2.2 q hq with rfl | o
      · exact Kd.cl_nil n
      · exact Kd.cl_inj hi n q o
def numX (num : Nat → Int) (i : Nat) : Option Int := if i < 3 then some (num i) else none
theorem numX_lt {num : Nat → Int} {i : Nat} (hi : i < 3) : numX num i = some (num i) := if_pos hi
theorem fit_step {g n : Nat} {num : Nat → Int} (V : PatT T km kt kp ki kk kq kv kn kf ks) {h : Hh} {k : Kd} {p : Pt} {v : Vq} {M N : Nat} {fs : List D} (hp : HasP n k p) (hv : HasV num n k v) (ok : k.Ok n) (cl : k.Cl num n) (h77 : ∀ i, num i ≠ 77) (hm : numsAt num M h) (hMN : M ≠ N) (hn : h[N]? = some (.lst fs)) (hb : fs.length + p.nb ≤ 1000000)
    (ih : ∀ (p' : Pt) (v' : Vq) (n' : Nat) (k' : Kd) (h : Hh) (fs : List D), p'.dep < p.dep → HasP n' k' p' → HasV num n' k' v' → k'.Ok n' → k'.Cl num n' → numsAt num M h → h[N]? = some (.lst fs) → fs.length + p'.nb ≤ 1000000 → Sat (sem T (g + 2) kf [p'.enc, v'.enc, .ref M, .ref N] h) (FitR N fs (fitQ (numX num) p' v') h)) :
    Sat (sem T (g + 3) kf [p.enc, v.enc, .ref M, .ref N] h) (FitR N fs (fitQ (numX num) p v) h) := by
  refine .startA V.fit rfl rfl ?_
  unfold fitB
  cases hp with
  | any =>
    simp only [Pt.enc]
    repeat walk_at "pi"
    exact ⟨But.refl _ _, by simp [fitQ]; exact hn, by simp [fitQ]⟩
  | @var n k s =>
    simp only [Pt.enc]
    repeat walk_at "pi"
    refine lsK.mk hn ?_
    repeat walk_at "pi"
    refine Sat.append hn (by unfold SL; omega) ?_
    repeat walk_at "pi"
    exact ⟨(But.refl _ _).set, at_set hn, by simp [fitQ]⟩
  | @as n k p s hp =>
    simp only [Pt.enc]
    simp only [Pt.nb] at hb
    repeat walk_at "pi"
    refine lsK.mk hn ?_
    repeat walk_at "pi"
    refine Sat.append hn (by unfold SL; omega) ?_
    repeat walk_at "pi"
    refine (ih p v n k _ _ (by simp [Pt.dep]) hp hv ok cl (by unfold numsAt; rw [List.getElem?_set_ne (by omega)]; exact hm) (at_set hn) (by simp; omega)).mono fun r h2 ⟨b2, e2, er⟩ => ?_
    subst er
    repeat walk_at "pi"
    exact ⟨(But.refl _ _).set.trans b2, by rw [e2]; simp [fitQ], by simp [fitQ]⟩
  | @int n i i0 i1 =>
    cases v <;> first
      | (cases n <;> exact hv.elim)
      | skip
    rename_i j
    simp only [Pt.enc, Vq.enc]
    repeat walk_at "pi"
    exact ⟨But.refl _ _, by simp [fitQ]; exact hn, by simp [fitQ]⟩
  | @tup n ks ps hl hp =>
    cases v <;> first
      | exact hv.elim
      | skip
    rename_i vs
    obtain ⟨hl2, hv⟩ := hv
    obtain ⟨o1, _, o2⟩ := ok
    simp only [Pt.enc, Vq.enc]
    simp only [Pt.nb] at hb
    repeat walk_at "pi"
    rw [pencL_len]
    refine ⟨⟨by omega, by omega⟩, ?_⟩
    have efit : fitQ (numX num) (.tup ps) (.tup vs) = fitQL (numX num) ps vs := by
      rw [fitQ, if_pos (by omega)]
    rw [efit]
    refine Sat.forIx (fun i e h' => But N h h' ∧ (∃ w, e = [some (.tup [.str t_tuple, .tup (Pt.encL ps)]), some (.tup [.str t_tuple, .tup (Vq.encL vs)]), some (.ref M), some (.ref N), w, none, none]) ∧ ∃ acc, h'[N]? = some (.lst (fs ++ acc)) ∧ acc.length + Pt.nbL (ps.drop i) ≤ Pt.nbL ps ∧ fitQL (numX num) ps vs = (acc ++ (fitQL (numX num) (ps.drop i) (vs.drop i)).1, (fitQL (numX num) (ps.drop i) (vs.drop i)).2)) ⟨But.refl _ _, ⟨_, rfl⟩, [], by simpa using hn, by simp, by simp⟩ (fun _ _ _ _ => rfl) (fun i d e h' hd ⟨b1, ⟨w, ee⟩, acc, e1, e2, e3⟩ => ?_) fun e h' ⟨b1, ⟨w, ee⟩, acc, e1, e2, e3⟩ => ?_
    · obtain ⟨hi, rfl⟩ := rng_at hd
      subst ee
      have hi : i < ps.length := by simpa using hi
      have e0 : (0 : Int) + (i : Int) = (i : Int) := by omega
      rw [e0]
      have gp := List.getElem?_eq_getElem hi
      have gv := List.getElem?_eq_getElem (l := vs) (i := i) (by omega)
      have gk := List.getElem?_eq_getElem (l := ks) (i := i) (by omega)
      have hnb := nbL_at gp
      rw [fitQL_at gp gv] at e3
      repeat walk_at "pi"
      refine Sat.ixT (atIx_nat (pencL_at gp)) ?_
      repeat walk_at "pi"
      refine Sat.ixT (atIx_nat (vencL_at gv)) ?_
      repeat walk_at "pi"
      have hdep : (ps[i]).dep < (Pt.tup ps).dep := by
        have := (pdepL_at (n := Pt.depL ps)).mp (Nat.le_refl _) _ (List.getElem_mem hi)
        simp only [Pt.dep]
        omega
      refine (ih ps[i] vs[i] n ks[i] h' _ hdep (hp i _ _ gk gp) (hv i _ _ gk gv) (o2 _ (List.getElem_mem _)) (cl _ (List.getElem_mem _)) (b1.at hMN hm) e1 (by simp only [List.length_append]; omega)).mono fun r h2 ⟨b2, e4, er⟩ => ?_
      subst er
      have hfl := fitQ_nb (numX num) ps[i] vs[i]
      cases hr : (fitQ (numX num) ps[i] vs[i]).2 with
      | true =>
        rw [hr, if_pos rfl] at e3
        repeat walk_at "pi"
        exact ⟨b1.trans b2, ⟨_, rfl⟩, acc ++ (fitQ (numX num) ps[i] vs[i]).1, by rw [e4, List.append_assoc], by simp only [List.length_append]; omega, by rw [e3]; simp⟩
      | false =>
        rw [hr, if_neg (by decide)] at e3
        repeat walk_at "pi"
        exact ⟨b1.trans b2, by rw [e4, e3, List.append_assoc], by rw [e3]⟩
    · subst ee
      rw [rng_len] at e3
      repeat walk_at "pi"
      have el : ps.drop (((ps.length : Nat) : Int)).toNat = [] := by simp
      rw [el] at e3
      simp only [fitQL, List.append_nil] at e3
      exact ⟨b1, by rw [e1, e3], by rw [e3]⟩
  | @pkt0 n i ks hk =>
    cases v <;> first
      | exact hv.elim
      | skip
    rename_i m nm v
    obtain ⟨o1, o2⟩ := ok
    have hi : i < 3 := by have := (List.getElem?_eq_some_iff.mp hk).1; omega
    simp only [Pt.enc, Vq.enc]
    repeat walk_at "pi"
    refine (number_ok V hi hm).mono fun r h2 ⟨er, eh⟩ => ?_
    subst er eh
    have b2 : But N h (h ++ [.lst [pathD 0, pathD 1, pathD 2]]) := (Ext.push).but N
    have e2 := (Ext.push (o := .lst [pathD 0, pathD 1, pathD 2])).at hn
    repeat walk_at "pi"
    by_cases c : m = num i
    · rw [decide_eq_true c]
      have efit : fitQ (numX num) (.pkt i .nil) (.pkt m nm v) = if true = v.isNil then ([], true) else ([], false) := by
        rw [fitQ, if_pos (by rw [numX_lt hi, c])]
        rfl
      rw [efit]
      repeat walk_at "pi"
      refine Sat.isN (isN_v v) ?_
      cases hz : v.isNil with
      | true =>
        repeat walk_at "pi"
        exact ⟨b2, by simpa using e2, rfl⟩
      | false =>
        repeat walk_at "pi"
        exact ⟨b2, by simpa using e2, rfl⟩
    · rw [decide_eq_false c]
      have efit : fitQ (numX num) (.pkt i .nil) (.pkt m nm v) = ([], false) := by
        rw [fitQ, if_neg (fun z => c (Option.some.inj ((numX_lt hi).symm.trans z)).symm)]
      rw [efit]
      repeat walk_at "pi"
      exact ⟨b2, by simpa using e2, rfl⟩
  | @pkt1 n i ks k p hk hkn hp =>
    cases v <;> first
      | exact hv.elim
      | skip
    rename_i m nm v
    obtain ⟨o1, o2⟩ := ok
    obtain ⟨_, hv⟩ := hv
    have hi : i < 3 := by have := (List.getElem?_eq_some_iff.mp hk).1; omega
    have okk := (ksub o2 hk).resolve_left hkn
    simp only [Pt.enc, Vq.enc]
    simp only [Pt.nb] at hb
    repeat walk_at "pi"
    refine (number_ok V hi hm).mono fun r h2 ⟨er, eh⟩ => ?_
    subst er eh
    have b2 : But N h (h ++ [.lst [pathD 0, pathD 1, pathD 2]]) := (Ext.push).but N
    have e2 := (Ext.push (o := .lst [pathD 0, pathD 1, pathD 2])).at hn
    have e3 : numsAt num M (h ++ [.lst [pathD 0, pathD 1, pathD 2]]) := (Ext.push (o := .lst [pathD 0, pathD 1, pathD 2])).at hm
    have hpn := hasP_ne hp
    repeat walk_at "pi"
    by_cases c : m = num i
    · have hv2 : HasV num n k v := by
        rcases hv with ⟨z, _⟩ | ⟨j, k', g1, g2, g3⟩
        · exact absurd (c.symm.trans z) (h77 i)
        · have := cl.1 j i k' k g1 hk (by rw [← g2, c])
          subst this
          exact g3.resolve_left fun z => hkn z.1
      have hvn := hasV_ne hv2
      rw [decide_eq_true c]
      have efit : fitQ (numX num) (.pkt i p) (.pkt m nm v) = fitQ (numX num) p v := by
        rw [fitQ, if_pos (by rw [numX_lt hi, c]), if_pos (by rw [hpn, hvn]), if_neg (by rw [hpn]; decide)]
      rw [efit]
      repeat walk_at "pi"
      refine Sat.isN (isN_p p) ?_
      repeat walk_at "pi"
      refine Sat.isN (isN_v v) ?_
      rw [hpn, hvn]
      repeat walk_at "pi"
      refine Sat.isN (isN_p p) ?_
      rw [hpn]
      repeat walk_at "pi"
      refine (ih p v n k _ fs (by simp [Pt.dep]) hp hv2 okk (cl.2 _ (List.mem_of_getElem? hk)) e3 e2 hb).mono fun r h3 ⟨b3, e4, er⟩ => ?_
      repeat walk_at "pi"
      exact ⟨b2.trans b3, e4, er⟩
    · rw [decide_eq_false c]
      have efit : fitQ (numX num) (.pkt i p) (.pkt m nm v) = ([], false) := by
        rw [fitQ, if_neg (fun z => c (Option.some.inj ((numX_lt hi).symm.trans z)).symm)]
      rw [efit]
      repeat walk_at "pi"
      exact ⟨b2, by simpa using e2, rfl⟩
  | @con0 n a fam ks hk =>
    cases v <;> first
      | exact hv.elim
      | skip
    rename_i b nm v
    simp only [Pt.enc, Vq.enc]
    repeat walk_at "pi"
    by_cases c : b = a
    · rw [decide_eq_true (by omega)]
      have efit : fitQ (numX num) (.con fam a .nil) (.con b nm v) = if true = v.isNil then ([], true) else ([], false) := by
        rw [fitQ, if_pos c]
        rfl
      rw [efit]
      repeat walk_at "pi"
      refine Sat.isN (isN_v v) ?_
      cases hz : v.isNil with
      | true =>
        repeat walk_at "pi"
        exact ⟨But.refl _ _, by simpa using hn, rfl⟩
      | false =>
        repeat walk_at "pi"
        exact ⟨But.refl _ _, by simpa using hn, rfl⟩
    · rw [decide_eq_false (by omega)]
      have efit : fitQ (numX num) (.con fam a .nil) (.con b nm v) = ([], false) := by
        rw [fitQ, if_neg c]
      rw [efit]
      repeat walk_at "pi"
      exact ⟨But.refl _ _, by simpa using hn, rfl⟩
  | @con1 n a fam ks k p hk hkn hp =>
    cases v <;> first
      | exact hv.elim
      | skip
    rename_i b nm v
    obtain ⟨_, _, _, _, o5⟩ := ok
    have okk := (ksub o5 hk).resolve_left hkn
    have hpn := hasP_ne hp
    simp only [Pt.enc, Vq.enc]
    simp only [Pt.nb] at hb
    repeat walk_at "pi"
    by_cases c : b = a
    · have hv2 : HasV num n k v := by
        obtain ⟨k', p', g1, g2, g3, g4⟩ := hv
        subst c
        rw [hk] at g1
        cases g1
        exact g4.resolve_left fun z => hkn z.1
      have hvn := hasV_ne hv2
      rw [decide_eq_true (by omega)]
      have efit : fitQ (numX num) (.con fam a p) (.con b nm v) = fitQ (numX num) p v := by
        rw [fitQ, if_pos c, if_pos (by rw [hpn, hvn]), if_neg (by rw [hpn]; decide)]
      rw [efit]
      repeat walk_at "pi"
      refine Sat.isN (isN_p p) ?_
      repeat walk_at "pi"
      refine Sat.isN (isN_v v) ?_
      rw [hpn, hvn]
      repeat walk_at "pi"
      refine Sat.isN (isN_p p) ?_
      rw [hpn]
      repeat walk_at "pi"
      refine (ih p v n k _ fs (by simp [Pt.dep]) hp hv2 okk (cl _ (List.mem_of_getElem? hk)) hm hn hb).mono fun r h3 ⟨b3, e4, er⟩ => ?_
      repeat walk_at "pi"
      exact ⟨b3, e4, er⟩
    · rw [decide_eq_false (by omega)]
      have efit : fitQ (numX num) (.con fam a p) (.con b nm v) = ([], false) := by
        rw [fitQ, if_neg c]
      rw [efit]
      repeat walk_at "pi"
      exact ⟨But.refl _ _, by simpa using hn, rfl⟩
theorem fit_ok (V : PatT T km kt kp ki kk kq kv kn kf ks) {num : Nat → Int} (h77 : ∀ i, num i ≠ 77) {M N : Nat} (hMN : M ≠ N) : ∀ (d f n : Nat) {h : Hh} {k : Kd} {p : Pt} {v : Vq} {fs : List D}, p.dep ≤ d → HasP n k p → HasV num n k v → k.Ok n → k.Cl num n → numsAt num M h → h[N]? = some (.lst fs) → fs.length + p.nb ≤ 1000000 →
    Sat (sem T (f + d + 3) kf [p.enc, v.enc, .ref M, .ref N] h) (FitR N fs (fitQ (numX num) p v) h)
  | 0, f, n, h, k, p, v, fs, hd, hp, hv, ok, cl, hm, hn, hb => fit_step (g := f) V hp hv ok cl h77 hm hMN hn hb fun p' v' n' k' h fs hlt => absurd hlt (by omega)
  | d + 1, f, n, h, k, p, v, fs, hd, hp, hv, ok, cl, hm, hn, hb => fit_step (g := f + d + 1) V hp hv ok cl h77 hm hMN hn hb fun p' v' n' k' h fs hlt hp hv ok cl hm hn hb =>
    fit_ok V h77 hMN d f n' (by omega) hp hv ok cl hm hn hb
theorem pairs_ok (V : PatT T km kt kp ki kk kq kv kn kf ks) {num : Nat → Int} {h : Hh} {M : Nat} (hm : numsAt num M h) :
    Sat (sem T (f + 2) ks [.ref M] h) fun r h' => Ext h h' ∧ ∃ P, h.length ≤ P ∧ r = .ref P ∧ h'[P]? = some (.lst [.tup [pathD 0, .int (num 0)], .tup [pathD 1, .int (num 1)], .tup [pathD 2, .int (num 2)]]) := by
  refine .startA V.pairs rfl rfl ?_
  unfold pairsB
  repeat walk_at "pi"
  refine (paths_ok V).mono fun r h2 ⟨er, eh⟩ => ?_
  subst er eh
  have e3 := (Ext.push (o := .lst [pathD 0, pathD 1, pathD 2])).at hm
  repeat walk_at "pi"
  refine ⟨⟨by omega, by omega⟩, ?_⟩
  refine Sat.compIx (fun i acc h' => h' = h ++ [.lst [pathD 0, pathD 1, pathD 2]] ∧ acc = [D.tup [pathD 0, .int (num 0)], .tup [pathD 1, .int (num 1)], .tup [pathD 2, .int (num 2)]].take i) ⟨rfl, rfl⟩ (fun _ _ _ _ => rfl) (fun i d acc h2 hd ⟨eh, ea⟩ => ?_) fun acc h2 ⟨eh, ea⟩ => ?_
  · obtain ⟨hi, rfl⟩ := rng_at hd
    subst eh ea
    have hi : i < 3 := by simpa using hi
    have e0 : (0 : Int) + (i : Int) = (i : Int) := by omega
    rw [e0]
    repeat walk_at "pi"
    refine Sat.ixL (z := pathD i) at_push (atIx_nat (by
      have : i = 0 ∨ i = 1 ∨ i = 2 := by omega
      rcases this with rfl | rfl | rfl <;> rfl)) ?_
    repeat walk_at "pi"
    refine Sat.ixL (z := .int (num i)) e3 (atIx_nat (by
      have : i = 0 ∨ i = 1 ∨ i = 2 := by omega
      rcases this with rfl | rfl | rfl <;> rfl)) ?_
    repeat walk_at "pi"
    have : i = 0 ∨ i = 1 ∨ i = 2 := by omega
    rcases this with rfl | rfl | rfl <;> exact ⟨by simp; unfold SL; omega, rfl, rfl⟩
  · subst eh
    rw [rng_len] at ea
    repeat walk_at "pi"
    refine ⟨Ext.push.trans Ext.push, _, by simp, rfl, ?_⟩
    rw [ea]
    exact at_push
--NEXT
end
end PI
/-! ## PiM -/
set_option Elab.async false
set_option linter.all false
set_option maxRecDepth 100000
set_option maxHeartbeats 2000000
set_option autoImplicit false
/-! PI, helpers: matching of values against patterns in an environment (find, field_of, exception_of, match_inside, match_row). -/
namespace PI
local macro_rules | `(tactic| walk_at "pi") => `(tactic| (
  first
  | (with_reducible refine PI.red ?_)
  | ((with_reducible show PI.Sat (PI.dVar _ _ _) _); refine Sat.var rfl ?_)
  | ((with_reducible show PI.Sat (PI.sAug _ _ _ _ _) _); refine Sat.aug rfl ?_)
  | ((with_reducible show PI.npK _ _ _); refine npK.mk rfl ?_)
  | ((with_reducible show PI.szK _ _); refine szK.mk (by simp only [List.length_cons, List.length_nil]; decide) ?_)
  | ((with_reducible show PI.isaK _ _ _ _); refine isaK.mk rfl ?_)
  | ((with_reducible show PI.ifK _ _ _); first | (refine ifK.t (by rfl) ?_) | (refine ifK.f (by rfl) ?_))
  | ((with_reducible show PI.Sat (PI.gTp _ _ _ _ _) _); refine Sat.gTp rfl ?_)
  | ((with_reducible show PI.Sat (PI.cIsB _ _ _) _); refine Sat.isB rfl ?_)
  | ((with_reducible show PI.Sat (PI.cNotB _ _ _) _); refine Sat.notB rfl ?_)
  | ((with_reducible show PI.Sat (PI.cIn _ (PI.D.tup _) _) _); refine Sat.inT rfl ?_)
  | ((with_reducible show PI.Sat (PI.cNin _ (PI.D.tup _) _) _); refine Sat.ninT rfl ?_)
  | ((with_reducible show PI.Sat (PI.cIsN _ _) _); refine Sat.isN rfl ?_)
  | ((with_reducible show PI.Sat (PI.cNotN _ _) _); refine Sat.notN rfl ?_)
  | ((with_reducible show PI.Sat (PI.oPow _ _ _) _); refine Sat.powI (by decide) ?_)))
def t_match : List Nat := [109, 97, 116, 99, 104]
def t_variable : List Nat := [118, 97, 114, 105, 97, 98, 108, 101]
def findB (_ : Cal) : SDen :=
 (sSeq (sWhile (tV (dUn cNotN (dVar 0)))
 (sSeq (sIf (tV (dBin cEq (dBin oIx (dVar 0) (dC (.int 0))) (dVar 1)))
 (sRet (dBin oIx (dVar 0) (dC (.int 1))))
 sNil)
 (sAsg (dBin oIx (dVar 0) (dC (.int 2))) (gNm 0))))
 (sRet (dC .non)))
def fieldB (_ : Cal) : SDen :=
 (sSeq (sIf (tV (dBin cEq (dBin oIx (dVar 0) (dC (.int 0))) (dC (.str t_record))))
 (sFor (wSeq (dBin oIx (dVar 0) (dC (.int 1)))) (gTp 2 (gsCons (gNm 2) (gsCons (gNm 3) gsNil)))
 (sIf (tV (dBin cEq (dVar 2) (dVar 1)))
 (sRet (dVar 3))
 sNil))
 sNil)
 (sRet (dC .non)))
def excB (k0 k1 : Nat) (c : Cal) : SDen :=
 (sSeq (sAsg (dLst aNil) (gNm 2))
 (sSeq (sWhile (tV (dBin cEq (dBin oIx (dVar 0) (dC (.int 0))) (dC (.str t_field))))
 (sSeq (sExpr (dMeth mAppend (dVar 2) (aCons (dBin oIx (dVar 0) (dC (.int 1))) aNil)))
 (sAsg (dBin oIx (dVar 0) (dC (.int 2))) (gNm 0))))
 (sSeq (sAsg (dCallN c k0 2 (aCons (dVar 1) (aCons (dBin oIx (dVar 0) (dC (.int 1))) aNil))) (gNm 3))
 (sSeq (sIf (tV (dUn cIsN (dVar 3)))
 (sRet (dC (.str t_variable)))
 sNil)
 (sSeq (sFor (wSeq (dUn oRev (dVar 2))) (gNm 4)
 (sSeq (sAsg (dCallN c k1 2 (aCons (dVar 3) (aCons (dVar 4) aNil))) (gNm 3))
 (sIf (tV (dUn cIsN (dVar 3)))
 (sRet (dC (.str t_match)))
 sNil)))
 (sRet (dIf (tV (dBin cEq (dBin oIx (dVar 3) (dC (.int 0))) (dC (.str t_exn)))) (dVar 3) (dC (.str t_match)))))))))
def argB (k4 : Nat) (c : Cal) : SDen :=
 (sSeq (sIf (tV (dBin cNe (dUn cIsN (dVar 0)) (dUn cIsN (dVar 1))))
 (sRet (dC (.str t_match)))
 sNil)
 (sSeq (sIf (tV (dUn cIsN (dVar 0)))
 (sRet (dC (.bl true)))
 sNil)
 (sRet (dCallN c k4 4 (aCons (dVar 0) (aCons (dVar 1) (aCons (dVar 2) (aCons (dVar 3) aNil))))))))
def insB (k3 k4 k5 : Nat) (c : Cal) : SDen :=
 (sSeq (sAsg (dBin oIx (dVar 0) (dC (.int 0))) (gNm 4))
 (sSeq (sIf (tV (dBin cEq (dVar 4) (dC (.str t_any))))
 (sRet (dC (.bl true)))
 sNil)
 (sSeq (sIf (tV (dBin cEq (dVar 4) (dC (.str t_var))))
 (sSeq (sExpr (dMeth mAppend (dVar 3) (aCons (dTup (aCons (dBin oIx (dVar 0) (dC (.int 1))) (aCons (dVar 1) aNil))) aNil)))
 (sRet (dC (.bl true))))
 sNil)
 (sSeq (sIf (tV (dBin cEq (dVar 4) (dC (.str t_as))))
 (sSeq (sExpr (dMeth mAppend (dVar 3) (aCons (dTup (aCons (dBin oIx (dVar 0) (dC (.int 1))) (aCons (dVar 1) aNil))) aNil)))
 (sRet (dCallN c k4 4 (aCons (dBin oIx (dVar 0) (dC (.int 2))) (aCons (dVar 1) (aCons (dVar 2) (aCons (dVar 3) aNil)))))))
 sNil)
 (sSeq (sIf (tV (dBin cEq (dVar 4) (dC (.str t_packet))))
 (sRet (dCallN c k5 4 (aCons (dVar 0) (aCons (dVar 1) (aCons (dVar 2) (aCons (dVar 3) aNil))))))
 sNil)
 (sSeq (sIf (tV (dBin cNe (dBin oIx (dVar 1) (dC (.int 0))) (dVar 4)))
 (sRet (dC (.str t_match)))
 sNil)
 (sSeq (sIf (tV (dBin cEq (dVar 4) (dC (.str t_int))))
 (sRet (dBin cEq (dBin oIx (dVar 1) (dC (.int 1))) (dBin oIx (dVar 0) (dC (.int 1)))))
 sNil)
 (sSeq (sIf (tV (dBin cEq (dVar 4) (dC (.str t_con))))
 (sSeq (sIf (tV (dBin cNe (dBin oIx (dVar 1) (dC (.int 1))) (dBin oIx (dVar 0) (dC (.int 2)))))
 (sRet (dC (.bl false)))
 sNil)
 (sSeq (sIf (tV (dBin cNe (dBin oIx (dVar 1) (dC (.int 2))) (dBin oIx (dBin oIx (dBin oIx (dVar 0) (dC (.int 1))) (dBin oIx (dVar 0) (dC (.int 2)))) (dC (.int 0)))))
 (sRet (dC (.str t_match)))
 sNil)
 (sRet (dCallN c k3 4 (aCons (dBin oIx (dVar 0) (dC (.int 3))) (aCons (dBin oIx (dVar 1) (dC (.int 3))) (aCons (dVar 2) (aCons (dVar 3) aNil))))))))
 sNil)
 (sSeq (sIf (tV (dBin cNe (dArgs bLen (aCons (dBin oIx (dVar 1) (dC (.int 1))) aNil)) (dArgs bLen (aCons (dBin oIx (dVar 0) (dC (.int 1))) aNil))))
 (sRet (dC (.str t_match)))
 sNil)
 (sSeq (sFor (wZip (dBin oIx (dVar 0) (dC (.int 1))) (dBin oIx (dVar 1) (dC (.int 1)))) (gTp 2 (gsCons (gNm 5) (gsCons (gNm 6) gsNil)))
 (sSeq (sAsg (dCallN c k4 4 (aCons (dVar 5) (aCons (dVar 6) (aCons (dVar 2) (aCons (dVar 3) aNil))))) (gNm 7))
 (sIf (tV (dBin cNotB (dVar 7) (dC (.bl true))))
 (sRet (dVar 7))
 sNil)))
 (sRet (dC (.bl true)))))))))))))
def mpkB (k2 k3 : Nat) (c : Cal) : SDen :=
 (sSeq (sAsg (dCallN c k2 2 (aCons (dBin oIx (dVar 0) (dC (.int 1))) (aCons (dVar 2) aNil))) (gNm 4))
 (sSeq (sIf (tT (dIsA .str (dVar 4)))
 (sRet (dVar 4))
 sNil)
 (sSeq (sIf (tV (dBin cNe (dBin oIx (dVar 1) (dC (.int 0))) (dC (.str t_packet))))
 (sRet (dC (.str t_match)))
 sNil)
 (sSeq (sIf (tV (dBin cNe (dBin oIx (dVar 1) (dC (.int 1))) (dBin oIx (dVar 4) (dC (.int 1)))))
 (sRet (dC (.bl false)))
 sNil)
 (sRet (dCallN c k3 4 (aCons (dBin oIx (dVar 0) (dC (.int 2))) (aCons (dBin oIx (dVar 1) (dC (.int 3))) (aCons (dVar 2) (aCons (dVar 3) aNil))))))))))
def rowB (k4 : Nat) (c : Cal) : SDen :=
 (sSeq (sAsg (dLst aNil) (gNm 3))
 (sSeq (sAsg (dCallN c k4 4 (aCons (dVar 0) (aCons (dVar 1) (aCons (dVar 2) (aCons (dVar 3) aNil))))) (gNm 4))
 (sSeq (sIf (tV (dBin cIsB (dVar 4) (dC (.bl true))))
 (sRet (dVar 3))
 sNil)
 (sRet (dIf (tV (dBin cIsB (dVar 4) (dC (.bl false)))) (dC .non) (dVar 4))))))

structure MatT (T : Nat → Df) (k0 k1 k2 k3 k4 k5 k6 : Nat) : Prop where
  find : T k0 = ⟨2, 2, findB⟩
  field : T k1 = ⟨4, 2, fieldB⟩
  exc : T k2 = ⟨5, 2, excB k0 k1⟩
  arg : T k3 = ⟨4, 4, argB k4⟩
  ins : T k4 = ⟨8, 4, insB k3 k4 k5⟩
  mpk : T k5 = ⟨5, 4, mpkB k2 k3⟩
  row : T k6 = ⟨5, 3, rowB k4⟩
/-! ### environments -/
def envD : List (List Nat × D) → D
  | [] => .non
  | (n, v) :: r => .tup [.str n, v, envD r]
def findL : List (List Nat × D) → List Nat → Option D
  | [], _ => none
  | (n, v) :: r, x => if n = x then some v else findL r x
/-- the value of a field; none: no list of fields -/
def fieldL : List D → List Nat → Option (Option D)
  | [], _ => some none
  | .tup [.str n, v] :: r, l => if n = l then some (some v) else fieldL r l
  | _, _ => none
def fieldOf (v : D) (l : List Nat) : Option (Option D) := match v with
  | .tup (.str t :: r) => if t = t_record then (match r with
    | .tup fs :: _ => fieldL fs l
    | _ => none) else some none
  | _ => none
inductive Ex where
  | word (w : List Nat) | num (n : Int) (r : List D) | bad
def isVal : D → Bool
  | .tup (.str _ :: _) => true
  | _ => false
def finE : D → Ex
  | .tup (.str t :: r) => if t = t_exn then (match r with
    | .int n :: r' => .num n r'
    | _ => .bad) else .word t_match
  | _ => .bad
def walkE : D → List (List Nat) → Ex
  | v, [] => finE v
  | v, l :: ls => match fieldOf v l with
    | none => .bad
    | some none => .word t_match
    | some (some w) => if isVal w = true then walkE w ls else .bad
def exOf (env : List (List Nat × D)) (ls : List (List Nat)) (x : List Nat) : Ex := match findL env x with
  | none => .word t_variable
  | some v => if isVal v = true then walkE v ls.reverse else .bad
def Ex.enc : Ex → D
  | .word w => .str w
  | .num n r => .tup (.str t_exn :: .int n :: r)
  | .bad => .non
def paD : List (List Nat) → List Nat → D
  | [], x => .tup [.str t_var, .str x]
  | l :: ls, x => .tup [.str t_field, .str l, paD ls x]
theorem fieldL_cons {d : D} {ds : List D} {l : List Nat} {o : Option D} (h : fieldL (d :: ds) l = some o) : ∃ n v, d = .tup [.str n, v] ∧ ((n = l ∧ o = some v) ∨ (n ≠ l ∧ fieldL ds l = some o)) := by
  unfold fieldL at h
  split at h
  · rename_i q
    cases q
  · rename_i q
    cases q
    split at h
    · rename_i c
      cases h
      exact ⟨_, _, rfl, .inl ⟨c, rfl⟩⟩
    · rename_i c
      exact ⟨_, _, rfl, .inr ⟨c, h⟩⟩
  · cases h
theorem isVal_of {v : D} (h : isVal v = true) : ∃ t r, v = .tup (.str t :: r) := by
  unfold isVal at h
  split at h
  · exact ⟨_, _, rfl⟩
  · cases h
section
variable {T : Nat → Df} {k0 k1 k2 k3 k4 k5 k6 f : Nat}
theorem find_ok (V : MatT T k0 k1 k2 k3 k4 k5 k6) {h : Hh} {env : List (List Nat × D)} {x : List Nat} (hl : env.length < 1000000) : Sat (sem T (f + 1) k0 [envD env, .str x] h) fun r h' => h' = h ∧ r = (findL env x).getD .non := by
  refine .startA V.find rfl rfl ?_
  unfold findB
  repeat walk_at "pi"
  refine Sat.whGo (fun m e h' => h' = h ∧ ∃ env' : List (List Nat × D), e = [some (envD env'), some (.str x)] ∧ findL env' x = findL env x ∧ env'.length = m) env.length ⟨rfl, env, rfl, rfl, rfl⟩ (fun m e h' ⟨eh, env', ee, hf, hm⟩ => ?_) (by unfold WF; omega)
  subst eh ee
  match env', hf, hm with
  | [], hf, hm =>
    simp only [envD]
    repeat walk_at "pi"
    rw [← hf]
    exact ⟨rfl, rfl⟩
  | (n, v) :: r, hf, hm =>
    simp only [envD]
    rw [findL] at hf
    repeat walk_at "pi"
    refine ifK.d (fun c => ?_) fun c => ?_
    · rw [if_pos c] at hf
      repeat walk_at "pi"
      rw [← hf]
      exact ⟨rfl, rfl⟩
    · rw [if_neg c] at hf
      repeat walk_at "pi"
      exact ⟨r.length, by simp at hm; omega, rfl, r, rfl, hf, rfl⟩
theorem field_ok (V : MatT T k0 k1 k2 k3 k4 k5 k6) {h : Hh} {v : D} {l : List Nat} {o : Option D} (hv : isVal v = true) (ho : fieldOf v l = some o) : Sat (sem T (f + 1) k1 [v, .str l] h) fun r h' => h' = h ∧ r = o.getD .non := by
  obtain ⟨t, r, rfl⟩ := isVal_of hv
  refine .startA V.field rfl rfl ?_
  unfold fieldB
  simp only [fieldOf] at ho
  repeat walk_at "pi"
  refine ifK.d (fun c => ?_) fun c => ?_
  · rw [if_pos c] at ho
    split at ho
    · rename_i fs r'
      repeat walk_at "pi"
      refine Sat.forGo (fun ds e h' => h' = h ∧ (∃ v2 v3, e = [some (.tup (.str t :: .tup fs :: r')), some (.str l), v2, v3]) ∧ fieldL ds l = some o) ⟨rfl, ⟨_, _, rfl⟩, ho⟩ (fun _ _ _ _ => rfl) (fun d ds e h' ⟨eh, ⟨v2, v3, ee⟩, hf⟩ => ?_) fun e h' ⟨eh, ⟨v2, v3, ee⟩, hf⟩ => ?_
      · subst eh ee
        obtain ⟨n, w, rfl, hq⟩ := fieldL_cons hf
        clear hf
        repeat walk_at "pi"
        rcases hq with ⟨c2, ho2⟩ | ⟨c2, hf⟩
        · rw [decide_eq_true c2, ho2]
          repeat walk_at "pi"
          exact ⟨rfl, rfl⟩
        · rw [decide_eq_false c2]
          repeat walk_at "pi"
          exact ⟨rfl, ⟨_, _, rfl⟩, hf⟩
      · subst eh ee
        cases hf
        repeat walk_at "pi"
        exact ⟨rfl, rfl⟩
    · cases ho
  · rw [if_neg c] at ho
    cases ho
    repeat walk_at "pi"
    exact ⟨rfl, rfl⟩
theorem exception_ok (V : MatT T k0 k1 k2 k3 k4 k5 k6) {h : Hh} {env : List (List Nat × D)} {ls : List (List Nat)} {x : List Nat} (hl : env.length < 1000000) (hls : ls.length < 1000000) (hx : exOf env ls x ≠ .bad) :
    Sat (sem T (f + 2) k2 [paD ls x, envD env] h) fun r h' => Ext h h' ∧ r = (exOf env ls x).enc := by
  refine .startA V.exc rfl rfl ?_
  unfold excB
  repeat walk_at "pi"
  refine Sat.whGo (fun m e h' => Ext h h' ∧ ∃ (gone rest : List (List Nat)), ls = gone ++ rest ∧ e = [some (paD rest x), some (envD env), some (.ref h.length), none, none] ∧ h'[h.length]? = some (.lst (gone.map .str)) ∧ m = rest.length) ls.length ⟨Ext.push, [], ls, rfl, rfl, at_push, rfl⟩ (fun m e h' ⟨x1, gone, rest, el, ee, e1, hm⟩ => ?_) (by unfold WF; omega)
  subst ee
  have hlg : ls.length = gone.length + rest.length := by rw [el, List.length_append]
  cases rest with
  | cons l rest =>
    simp only [paD]
    repeat walk_at "pi"
    refine lsK.mk e1 ?_
    repeat walk_at "pi"
    refine Sat.append e1 (by rw [List.length_map]; unfold SL; omega) ?_
    repeat walk_at "pi"
    exact ⟨rest.length, by simp at hm; omega, x1.set (Nat.le_refl _), gone ++ [l], rest, by simp [el], rfl, by rw [at_set e1]; simp, rfl⟩
  | nil =>
    rw [List.append_nil] at el
    subst el
    simp only [paD]
    repeat walk_at "pi"
    refine (find_ok V hl).mono fun r h2 ⟨eh, er⟩ => ?_
    subst eh er
    unfold exOf at hx ⊢
    cases hf : findL env x with
    | none =>
      simp only [Option.getD]
      repeat walk_at "pi"
      exact ⟨x1, rfl⟩
    | some v =>
      simp only [hf] at hx
      simp only [Option.getD]
      by_cases cv : isVal v = true
      · rw [if_pos cv] at hx ⊢
        obtain ⟨t, r, rfl⟩ := isVal_of cv
        repeat walk_at "pi"
        refine Sat.revL e1 ?_
        repeat walk_at "pi"
        refine wsK.lst at_push ?_
        have e2 : (h2 ++ [Ob.lst (ls.map D.str).reverse])[h2.length]? = some (.lst (ls.reverse.map D.str)) := by rw [List.map_reverse]; exact at_push
        rw [← List.map_reverse]
        refine Sat.forGo (fun ds e h' => h' = h2 ++ [Ob.lst (ls.reverse.map D.str)] ∧ ∃ (ls' : List (List Nat)) (w : D) (v4 : Option D), ds = ls'.map D.str ∧ isVal w = true ∧ e = [some (.tup [.str t_var, .str x]), some (envD env), some (.ref h.length), some w, v4] ∧ walkE w ls' ≠ .bad ∧ walkE w ls' = walkE (.tup (.str t :: r)) ls.reverse) ⟨rfl, ls.reverse, .tup (.str t :: r), _, rfl, rfl, rfl, hx, rfl⟩ (fun ds e h' ⟨eh, _⟩ => by subst eh; exact Wk.still_lst (by simp only [lstAt, at_push])) (fun d ds e h' ⟨eh, ls', w, v4, ed, hw, ee, hb, hq⟩ => ?_) fun e h' ⟨eh, ls', w, v4, ed, hw, ee, hb, hq⟩ => ?_
        · subst eh ee
          cases ls' with
          | nil => cases ed
          | cons l ls' =>
            rw [List.map_cons, List.cons.injEq] at ed
            obtain ⟨rfl, rfl⟩ := ed
            simp only [walkE] at hb hq
            cases hfo : fieldOf w l with
            | none =>
              simp only [hfo] at hb
              exact absurd rfl hb
            | some o =>
              simp only [hfo] at hb hq
              repeat walk_at "pi"
              refine (field_ok V hw hfo).mono fun r3 h3 ⟨eh, er⟩ => ?_
              subst eh er
              cases o with
              | none =>
                simp only [Option.getD]
                repeat walk_at "pi"
                rw [← hq]
                exact ⟨x1.trans Ext.push, rfl⟩
              | some w2 =>
                by_cases cw : isVal w2 = true
                · simp only [if_pos cw] at hb hq
                  simp only [Option.getD]
                  have cw0 := cw
                  obtain ⟨t2, r2, rfl⟩ := isVal_of cw
                  repeat walk_at "pi"
                  exact ⟨rfl, ls', _, _, rfl, cw0, rfl, hb, hq⟩
                · simp only [if_neg cw] at hb
                  exact absurd rfl hb
        · subst eh ee
          cases ls' with
          | cons l ls' => cases ed
          | nil =>
            simp only [walkE] at hb hq
            rw [← hq]
            obtain ⟨t2, r2, rfl⟩ := isVal_of hw
            unfold finE at hb ⊢
            simp only at hb ⊢
            repeat walk_at "pi"
            by_cases c : t2 = t_exn
            · rw [if_pos c] at hb ⊢
              rw [decide_eq_true c]
              split at hb
              · subst c
                repeat walk_at "pi"
                exact ⟨x1.trans Ext.push, rfl⟩
              · exact absurd rfl hb
            · rw [if_neg c] at hb ⊢
              rw [decide_eq_false c]
              repeat walk_at "pi"
              exact ⟨x1.trans Ext.push, rfl⟩
      · rw [if_neg cv] at hx
        exact absurd rfl hx
end
/-! ### patterns -/
inductive Pm where
  | nil | any | var (s : List Nat) | as (s : List Nat) (p : Pm) | int (i : Int) | tup (ps : List Pm) | pkt (ls : List (List Nat)) (x : List Nat) (p : Pm) | con (fam : List (List Nat × Bool)) (a : Nat) (p : Pm)
mutual
def Pm.enc : Pm → D
  | .nil => .non
  | .any => .tup [.str t_any]
  | .var s => .tup [.str t_var, .str s]
  | .as s p => .tup [.str t_as, .str s, p.enc]
  | .int i => .tup [.str t_int, .int i]
  | .tup ps => .tup [.str t_tuple, .tup (Pm.encL ps)]
  | .pkt ls x p => .tup [.str t_packet, paD ls x, p.enc]
  | .con fam a p => .tup [.str t_con, .tup (famD fam), .int (a : Nat), p.enc]
def Pm.encL : List Pm → List D
  | [] => []
  | k :: ks => k.enc :: Pm.encL ks
end
theorem mencL (ks : List Pm) : Pm.encL ks = ks.map Pm.enc := by
  induction ks with
  | nil => rfl
  | cons k ks ih => rw [Pm.encL, ih, List.map_cons]
def Pm.isNil : Pm → Bool
  | .nil => true
  | _ => false
mutual
def Pm.dep : Pm → Nat
  | .as _ p => p.dep + 1
  | .tup ps => Pm.depL ps + 1
  | .pkt _ _ p => p.dep + 1
  | .con _ _ p => p.dep + 1
  | _ => 0
def Pm.depL : List Pm → Nat
  | [] => 0
  | p :: ps => max p.dep (Pm.depL ps)
end
mutual
def Pm.nb : Pm → Nat
  | .var _ => 1
  | .as _ p => p.nb + 1
  | .tup ps => Pm.nbL ps
  | .pkt _ _ p => p.nb
  | .con _ _ p => p.nb
  | _ => 0
def Pm.nbL : List Pm → Nat
  | [] => 0
  | p :: ps => p.nb + Pm.nbL ps
end
theorem mdepL_at {n : Nat} : ∀ {ps : List Pm}, Pm.depL ps ≤ n ↔ ∀ p ∈ ps, p.dep ≤ n
  | [] => by simp [Pm.depL]
  | p :: ps => by
    rw [Pm.depL, Nat.max_le, mdepL_at]
    simp
inductive Rw where
  | yes | no | word (w : List Nat)
def Rw.enc : Rw → D
  | .yes => .bl true
  | .no => .bl false
  | .word w => .str w
def Rw.isYes : Rw → Bool
  | .yes => true
  | _ => false
/-- of a constructor's or a packet's argument -/
def argQ (r : List D × Rw) (pn vn : Bool) : List D × Rw := if pn = vn then (if pn = true then ([], .yes) else r) else ([], .word t_match)
mutual
def matchQ (env : List (List Nat × D)) : Pm → Vq → List D × Rw
  | .any, _ => ([], .yes)
  | .var s, v => ([.tup [.str s, v.enc]], .yes)
  | .as s p, v => (.tup [.str s, v.enc] :: (matchQ env p v).1, (matchQ env p v).2)
  | .int i, .int j => ([], if j = i then .yes else .no)
  | .tup ps, .tup vs => if ps.length = vs.length then matchL env ps vs else ([], .word t_match)
  | .pkt ls x p, .pkt m _ w => match exOf env ls x with
    | .word w => ([], .word w)
    | .num n _ => if m = n then argQ (matchQ env p w) p.isNil w.isNil else ([], .no)
    | .bad => ([], .no)
  | .pkt ls x _, _ => match exOf env ls x with
    | .word w => ([], .word w)
    | _ => ([], .word t_match)
  | .con fam a p, .con b nm w => if b = a then (if (fam[a]?).map (·.1) = some nm then argQ (matchQ env p w) p.isNil w.isNil else ([], .word t_match)) else ([], .no)
  | _, _ => ([], .word t_match)
def matchL (env : List (List Nat × D)) : List Pm → List Vq → List D × Rw
  | p :: ps, v :: vs => if (matchQ env p v).2.isYes = true then ((matchQ env p v).1 ++ (matchL env ps vs).1, (matchL env ps vs).2) else matchQ env p v
  | _, _ => ([], .yes)
end
mutual
/-- paths that lead to exceptions or words, constructors that are there -/
def Pm.Ok (env : List (List Nat × D)) : Pm → Prop
  | .as _ p => p.isNil = false ∧ Pm.Ok env p
  | .tup ps => Pm.OkL env ps
  | .pkt ls x p => exOf env ls x ≠ .bad ∧ ls.length < 1000000 ∧ Pm.Ok env p
  | .con fam a p => a < fam.length ∧ Pm.Ok env p
  | _ => True
def Pm.OkL (env : List (List Nat × D)) : List Pm → Prop
  | [] => True
  | p :: ps => p.isNil = false ∧ Pm.Ok env p ∧ Pm.OkL env ps
end
theorem mokL_at {env : List (List Nat × D)} : ∀ {ps : List Pm} {i : Nat} {p : Pm}, Pm.OkL env ps → ps[i]? = some p → p.isNil = false ∧ Pm.Ok env p
  | [], _, _, _, e => by simp at e
  | q :: ps, 0, p, h, e => by
    simp at e
    subst e
    exact ⟨h.1, h.2.1⟩
  | q :: ps, i + 1, p, h, e => mokL_at h.2.2 (by simpa using e)
theorem isN_m (p : Pm) : isN p.enc = some p.isNil := by cases p <;> rfl
theorem argQ_nb {r : List D × Rw} {pn vn : Bool} {n : Nat} (h : r.1.length ≤ n) : (argQ r pn vn).1.length ≤ n := by
  unfold argQ
  split
  · split
    · exact Nat.zero_le _
    · exact h
  · exact Nat.zero_le _
mutual
theorem matchQ_nb (env : List (List Nat × D)) : ∀ (p : Pm) (v : Vq), (matchQ env p v).1.length ≤ p.nb
  | .nil, v => by cases v <;> simp [matchQ]
  | .any, v => by simp [matchQ]
  | .var s, v => by simp [matchQ, Pm.nb]
  | .as s p, v => by
    have := matchQ_nb env p v
    simp only [matchQ, Pm.nb, List.length_cons]
    omega
  | .int i, v => by cases v <;> simp [matchQ]
  | .tup ps, v => by
    cases v with
    | tup vs =>
      simp only [matchQ]
      split
      · exact matchL_nb env ps vs
      · exact Nat.zero_le _
    | _ => simp [matchQ]
  | .pkt ls x p, v => by
    cases v with
    | pkt n nm w =>
      simp only [matchQ]
      split
      · exact Nat.zero_le _
      · split
        · exact argQ_nb (matchQ_nb env p w)
        · exact Nat.zero_le _
      · exact Nat.zero_le _
    | _ => simp only [matchQ]; split <;> exact Nat.zero_le _
  | .con fam a p, v => by
    cases v with
    | con b nm w =>
      simp only [matchQ]
      split
      · split
        · exact argQ_nb (matchQ_nb env p w)
        · exact Nat.zero_le _
      · exact Nat.zero_le _
    | _ => simp [matchQ]
theorem matchL_nb (env : List (List Nat × D)) : ∀ (ps : List Pm) (vs : List Vq), (matchL env ps vs).1.length ≤ Pm.nbL ps
  | [], vs => by cases vs <;> simp [matchL]
  | p :: ps, [] => by simp [matchL]
  | p :: ps, v :: vs => by
    have h1 := matchQ_nb env p v
    have h2 := matchL_nb env ps vs
    simp only [matchL, Pm.nbL]
    split
    · simp only [List.length_append]
      omega
    · omega
end
/-- fs grows by the bindings; all else is as it was -/
def MatR (N : Nat) (fs : List D) (res : List D × Rw) (h : Hh) (r : D) (h' : Hh) : Prop := But N h h' ∧ h'[N]? = some (.lst (fs ++ res.1)) ∧ r = res.2.enc
theorem matchL_at {env : List (List Nat × D)} {ps : List Pm} {vs : List Vq} {i : Nat} {p : Pm} {v : Vq} (hp : ps[i]? = some p) (hv : vs[i]? = some v) :
    matchL env (ps.drop i) (vs.drop i) = if (matchQ env p v).2.isYes = true then ((matchQ env p v).1 ++ (matchL env (ps.drop (i + 1)) (vs.drop (i + 1))).1, (matchL env (ps.drop (i + 1)) (vs.drop (i + 1))).2) else matchQ env p v := by
  obtain ⟨h1, e1⟩ := List.getElem?_eq_some_iff.mp hp
  obtain ⟨h2, e2⟩ := List.getElem?_eq_some_iff.mp hv
  rw [List.drop_eq_getElem_cons h1, List.drop_eq_getElem_cons h2, e1, e2, matchL]
theorem mnbL_at : ∀ {ps : List Pm} {i : Nat} {p : Pm}, ps[i]? = some p → p.nb + Pm.nbL (ps.drop (i + 1)) = Pm.nbL (ps.drop i)
  | [], _, _, e => by simp at e
  | q :: ps, 0, p, e => by
    simp at e
    subst e
    simp [Pm.nbL]
  | q :: ps, i + 1, p, e => by
    simpa using mnbL_at (ps := ps) (i := i) (p := p) (by simpa using e)
theorem mencL_len (ps : List Pm) : (Pm.encL ps).length = ps.length := by rw [mencL, List.length_map]
theorem mzip_at {ps : List Pm} {vs : List Vq} {i : Nat} {d : D} (e : (zipD (Pm.encL ps) (Vq.encL vs))[i]? = some d) : ∃ p v, ps[i]? = some p ∧ vs[i]? = some v ∧ d = .tup [p.enc, v.enc] := by
  obtain ⟨x, y, h1, h2, rfl⟩ := zipD_at e
  rw [mencL, List.getElem?_map, Option.map_eq_some_iff] at h1
  rw [vencL, List.getElem?_map, Option.map_eq_some_iff] at h2
  obtain ⟨p, g1, rfl⟩ := h1
  obtain ⟨v, g2, rfl⟩ := h2
  exact ⟨p, v, g1, g2, rfl⟩
theorem push_but' {N : Nat} {h : Hh} {o : Ob} : But N h (h ++ [o]) := Ext.push.but N
section
variable {T : Nat → Df} {k0 k1 k2 k3 k4 k5 k6 f : Nat}
theorem arg_ok (V : MatT T k0 k1 k2 k3 k4 k5 k6) {h : Hh} {env : List (List Nat × D)} {p : Pm} {w : Vq} {N : Nat} {fs : List D} (hn : h[N]? = some (.lst fs))
    (ih : p.isNil = false → w.isNil = false → Sat (sem T f k4 [p.enc, w.enc, envD env, .ref N] h) (MatR N fs (matchQ env p w) h)) :
    Sat (sem T (f + 1) k3 [p.enc, w.enc, envD env, .ref N] h) (MatR N fs (argQ (matchQ env p w) p.isNil w.isNil) h) := by
  refine .startA V.arg rfl rfl ?_
  unfold argB
  repeat walk_at "pi"
  refine Sat.isN (isN_m p) ?_
  repeat walk_at "pi"
  refine Sat.isN (isN_v w) ?_
  repeat walk_at "pi"
  cases hp : p.isNil with
  | true =>
    cases hw : w.isNil with
    | true =>
      repeat walk_at "pi"
      refine Sat.isN (isN_m p) ?_
      rw [hp]
      repeat walk_at "pi"
      exact ⟨But.refl _ _, by simpa [argQ] using hn, rfl⟩
    | false =>
      repeat walk_at "pi"
      exact ⟨But.refl _ _, by simpa [argQ] using hn, rfl⟩
  | false =>
    cases hw : w.isNil with
    | true =>
      repeat walk_at "pi"
      exact ⟨But.refl _ _, by simpa [argQ] using hn, rfl⟩
    | false =>
      repeat walk_at "pi"
      refine Sat.isN (isN_m p) ?_
      rw [hp]
      repeat walk_at "pi"
      refine (ih hp hw).mono fun r h2 q => ?_
      repeat walk_at "pi"
      exact q
theorem ins_step {g : Nat} (V : MatT T k0 k1 k2 k3 k4 k5 k6) {h : Hh} {env : List (List Nat × D)} {p : Pm} {v : Vq} {N : Nat} {fs : List D} (hl : env.length < 1000000) (hp0 : p.isNil = false) (hp : Pm.Ok env p) (hv : Vq.whole v = true) (hn : h[N]? = some (.lst fs)) (hb : fs.length + p.nb ≤ 1000000)
    (ih : ∀ (p' : Pm) (v' : Vq) (h : Hh) (fs : List D), p'.dep < p.dep → p'.isNil = false → Pm.Ok env p' → Vq.whole v' = true → h[N]? = some (.lst fs) → fs.length + p'.nb ≤ 1000000 → ∀ k, k ≤ 2 → Sat (sem T (g + 2 + k) k4 [p'.enc, v'.enc, envD env, .ref N] h) (MatR N fs (matchQ env p' v') h)) :
    Sat (sem T (g + 5) k4 [p.enc, v.enc, envD env, .ref N] h) (MatR N fs (matchQ env p v) h) := by
  obtain ⟨tg, xs, ev, z1, z2, z3, z4⟩ := tag_v hv
  refine .startA V.ins rfl rfl ?_
  unfold insB
  cases p with
  | nil => cases hp0
  | any =>
    simp only [Pm.enc]
    repeat walk_at "pi"
    exact ⟨But.refl _ _, by simp [matchQ]; exact hn, by simp [matchQ, Rw.enc]⟩
  | var s =>
    simp only [Pm.enc]
    repeat walk_at "pi"
    refine lsK.mk hn ?_
    repeat walk_at "pi"
    refine Sat.append hn (by unfold SL; omega) ?_
    repeat walk_at "pi"
    exact ⟨(But.refl _ _).set, at_set hn, by simp [matchQ, Rw.enc]⟩
  | as s p =>
    simp only [Pm.enc]
    simp only [Pm.nb] at hb
    repeat walk_at "pi"
    refine lsK.mk hn ?_
    repeat walk_at "pi"
    refine Sat.append hn (by unfold SL; omega) ?_
    repeat walk_at "pi"
    refine (ih p v _ _ (by simp [Pm.dep]) hp.1 hp.2 hv (at_set hn) (by simp; omega) 2 (Nat.le_refl _)).mono fun r h2 ⟨b2, e2, er⟩ => ?_
    subst er
    repeat walk_at "pi"
    exact ⟨(But.refl _ _).set.trans b2, by rw [e2]; simp [matchQ], by simp [matchQ]⟩
  | int i =>
    by_cases c : tg = t_int
    · obtain ⟨j, rfl⟩ := z1 c
      simp only [Pm.enc, Vq.enc]
      repeat walk_at "pi"
      refine ⟨But.refl _ _, by simp [matchQ]; exact hn, ?_⟩
      simp only [matchQ]
      by_cases c2 : j = i
      · rw [decide_eq_true c2, if_pos c2]; rfl
      · rw [decide_eq_false c2, if_neg c2]; rfl
    · have efit : matchQ env (.int i) v = ([], .word t_match) := by
        cases v <;> first
          | rfl
          | (cases ev; exact absurd rfl c)
      rw [efit, ev]
      simp only [Pm.enc]
      repeat walk_at "pi"
      refine ifK.f (decide_eq_false c) ?_
      repeat walk_at "pi"
      exact ⟨But.refl _ _, by simpa using hn, rfl⟩
  | tup ps =>
    by_cases c : tg = t_tuple
    · obtain ⟨vs, rfl⟩ := z2 c
      simp only [Pm.enc, Vq.enc]
      simp only [Pm.nb] at hb
      rw [Vq.whole] at hv
      repeat walk_at "pi"
      rw [mencL_len, vencL_len]
      by_cases cl : ps.length = vs.length
      · refine ifK.t (decide_eq_true (by omega)) ?_
        have efit : matchQ env (.tup ps) (.tup vs) = matchL env ps vs := by
          rw [matchQ, if_pos (by omega)]
        rw [efit]
        repeat walk_at "pi"
        have hzl : (Wk.its (zipD (Pm.encL ps) (Vq.encL vs))).items.length = ps.length := by
          rw [items_its, zipD_len, mencL_len, vencL_len]; omega
        refine Sat.forIx (fun i e h' => But N h h' ∧ (∃ w5 w6 w7, e = [some (.tup [.str t_tuple, .tup (Pm.encL ps)]), some (.tup [.str t_tuple, .tup (Vq.encL vs)]), some (envD env), some (.ref N), some (.str t_tuple), w5, w6, w7]) ∧ ∃ acc, h'[N]? = some (.lst (fs ++ acc)) ∧ acc.length + Pm.nbL (ps.drop i) ≤ Pm.nbL ps ∧ matchL env ps vs = (acc ++ (matchL env (ps.drop i) (vs.drop i)).1, (matchL env (ps.drop i) (vs.drop i)).2)) ⟨But.refl _ _, ⟨_, _, _, rfl⟩, [], by simpa using hn, by simp, by simp⟩ (fun _ _ _ _ => rfl) (fun i d e h' hd ⟨b1, ⟨w5, w6, w7, ee⟩, acc, e1, e2, e3⟩ => ?_) fun e h' ⟨b1, ⟨w5, w6, w7, ee⟩, acc, e1, e2, e3⟩ => ?_
        · obtain ⟨p, v, gp, gv, rfl⟩ := mzip_at (show (zipD (Pm.encL ps) (Vq.encL vs))[i]? = some d from hd)
          subst ee
          have hi := (List.getElem?_eq_some_iff.mp gp).1
          have hnb := mnbL_at gp
          rw [matchL_at gp gv] at e3
          repeat walk_at "pi"
          have hdep : p.dep < (Pm.tup ps).dep := by
            have := (mdepL_at (n := Pm.depL ps)).mp (Nat.le_refl _) _ (List.mem_of_getElem? gp)
            simp only [Pm.dep]
            omega
          obtain ⟨hq0, hq⟩ := mokL_at hp gp
          refine (ih p v h' _ hdep hq0 hq (wholeL_at hv gv) e1 (by simp only [List.length_append]; omega) 2 (Nat.le_refl _)).mono fun r h2 ⟨b2, e4, er⟩ => ?_
          subst er
          have hfl := matchQ_nb env p v
          cases hr : (matchQ env p v).2 with
          | yes =>
            rw [if_pos (by rw [hr]; rfl)] at e3
            simp only [Rw.enc]
            repeat walk_at "pi"
            exact ⟨b1.trans b2, ⟨_, _, _, rfl⟩, acc ++ (matchQ env p v).1, by rw [e4, List.append_assoc], by simp only [List.length_append]; omega, by rw [e3]; simp⟩
          | no =>
            rw [if_neg (by rw [hr]; simp [Rw.isYes])] at e3
            simp only [Rw.enc]
            repeat walk_at "pi"
            exact ⟨b1.trans b2, by rw [e4, e3, List.append_assoc], by rw [e3, hr]; rfl⟩
          | word w =>
            rw [if_neg (by rw [hr]; simp [Rw.isYes])] at e3
            simp only [Rw.enc]
            repeat walk_at "pi"
            exact ⟨b1.trans b2, by rw [e4, e3, List.append_assoc], by rw [e3, hr]; rfl⟩
        · subst ee
          rw [hzl] at e3
          repeat walk_at "pi"
          have el : ps.drop ps.length = [] := by simp
          rw [el] at e3
          simp only [matchL, List.append_nil] at e3
          exact ⟨b1, by rw [e1, e3], by rw [e3]; rfl⟩
      · refine ifK.f (decide_eq_false (by omega)) ?_
        have efit : matchQ env (.tup ps) (.tup vs) = ([], .word t_match) := by rw [matchQ, if_neg cl]
        rw [efit]
        repeat walk_at "pi"
        exact ⟨But.refl _ _, by simpa using hn, rfl⟩
    · have efit : matchQ env (.tup ps) v = ([], .word t_match) := by
        cases v <;> first
          | rfl
          | (cases ev; exact absurd rfl c)
      rw [efit, ev]
      simp only [Pm.enc]
      repeat walk_at "pi"
      refine ifK.f (decide_eq_false c) ?_
      repeat walk_at "pi"
      exact ⟨But.refl _ _, by simpa using hn, rfl⟩
  | con fam a p =>
    by_cases c : tg = t_con
    · obtain ⟨b, nm, w, rfl⟩ := z3 c
      obtain ⟨ha, hp⟩ := hp
      rw [whole_con] at hv
      simp only [Pm.enc, Vq.enc]
      simp only [Pm.nb] at hb
      repeat walk_at "pi"
      by_cases c2 : b = a
      · subst c2
        refine ifK.t (decide_eq_true rfl) ?_
        have hfa : (famD fam)[b]? = some (.tup [.str fam[b].1, .bl fam[b].2]) := by simp [famD, List.getElem?_eq_getElem ha]
        repeat walk_at "pi"
        refine Sat.ixT (atIx_nat hfa) ?_
        repeat walk_at "pi"
        have efit : matchQ env (.con fam b p) (.con b nm w) = if nm = fam[b].1 then argQ (matchQ env p w) p.isNil w.isNil else ([], .word t_match) := by
          simp only [matchQ, if_true, List.getElem?_eq_getElem ha, Option.map_some, Option.some.injEq]
          by_cases q : nm = fam[b].1
          · rw [if_pos q, if_pos q.symm]
          · rw [if_neg q, if_neg (fun z => q z.symm)]
        rw [efit]
        by_cases c3 : nm = fam[b].1
        · rw [if_pos c3]
          refine ifK.t (decide_eq_true c3) ?_
          repeat walk_at "pi"
          refine (arg_ok V (p := p) (w := w) hn fun q1 q2 => ih p w h fs (by simp [Pm.dep]) q1 hp (by rw [q2, Bool.false_or] at hv; exact hv) hn hb 1 (by decide)).mono fun r h2 q => ?_
          repeat walk_at "pi"
          exact q
        · rw [if_neg c3]
          refine ifK.f (decide_eq_false c3) ?_
          repeat walk_at "pi"
          exact ⟨But.refl _ _, by simpa using hn, rfl⟩
      · refine ifK.f (decide_eq_false (by omega)) ?_
        have efit : matchQ env (.con fam a p) (.con b nm w) = ([], .no) := by rw [matchQ, if_neg c2]
        rw [efit]
        repeat walk_at "pi"
        exact ⟨But.refl _ _, by simpa using hn, rfl⟩
    · have efit : matchQ env (.con fam a p) v = ([], .word t_match) := by
        cases v <;> first
          | rfl
          | (cases ev; exact absurd rfl c)
      rw [efit, ev]
      simp only [Pm.enc]
      repeat walk_at "pi"
      refine ifK.f (decide_eq_false c) ?_
      repeat walk_at "pi"
      exact ⟨But.refl _ _, by simpa using hn, rfl⟩
  | pkt ls x p =>
    obtain ⟨hx, hls, hp⟩ := hp
    simp only [Pm.enc]
    simp only [Pm.nb] at hb
    repeat walk_at "pi"
    refine .startA V.mpk rfl rfl ?_
    unfold mpkB
    repeat walk_at "pi"
    refine (exception_ok V hl hls hx).mono fun r h2 ⟨x2, er⟩ => ?_
    subst er
    have b2 := x2.but N
    have e2 := x2.at hn
    cases hex : exOf env ls x with
    | bad => exact absurd hex hx
    | word w =>
      have efit : matchQ env (.pkt ls x p) v = ([], .word w) := by
        cases v <;> simp [matchQ, hex]
      rw [efit]
      simp only [Ex.enc]
      repeat walk_at "pi"
      exact ⟨b2, by simpa using e2, rfl⟩
    | num n r =>
      simp only [Ex.enc]
      by_cases c : tg = t_packet
      · obtain ⟨m, nm, w, rfl⟩ := z4 c
        rw [whole_pkt] at hv
        simp only [Vq.enc]
        repeat walk_at "pi"
        have efit : matchQ env (.pkt ls x p) (.pkt m nm w) = if m = n then argQ (matchQ env p w) p.isNil w.isNil else ([], .no) := by
          simp only [matchQ, hex]
        rw [efit]
        by_cases c3 : m = n
        · rw [if_pos c3]
          refine ifK.t (decide_eq_true c3) ?_
          repeat walk_at "pi"
          refine (arg_ok V (p := p) (w := w) e2 fun q1 q2 => ih p w h2 fs (by simp [Pm.dep]) q1 hp (by rw [q2, Bool.false_or] at hv; exact hv) e2 hb 0 (by decide)).mono fun r h3 ⟨b3, e3, er⟩ => ?_
          repeat walk_at "pi"
          exact ⟨b2.trans b3, e3, er⟩
        · rw [if_neg c3]
          refine ifK.f (decide_eq_false c3) ?_
          repeat walk_at "pi"
          exact ⟨b2, by simpa using e2, rfl⟩
      · have efit : matchQ env (.pkt ls x p) v = ([], .word t_match) := by
          cases v <;> first
            | (simp [matchQ, hex]; done)
            | (cases ev; exact absurd rfl c)
        rw [efit, ev]
        repeat walk_at "pi"
        refine ifK.f (decide_eq_false c) ?_
        repeat walk_at "pi"
        exact ⟨b2, by simpa using e2, rfl⟩
theorem ins_ok (V : MatT T k0 k1 k2 k3 k4 k5 k6) {env : List (List Nat × D)} {N : Nat} (hl : env.length < 1000000) : ∀ (d f : Nat) {h : Hh} {p : Pm} {v : Vq} {fs : List D}, p.dep ≤ d → p.isNil = false → Pm.Ok env p → Vq.whole v = true → h[N]? = some (.lst fs) → fs.length + p.nb ≤ 1000000 →
    Sat (sem T (f + 3 * d + 5) k4 [p.enc, v.enc, envD env, .ref N] h) (MatR N fs (matchQ env p v) h)
  | 0, f, h, p, v, fs, hd, hp0, hp, hv, hn, hb => ins_step (g := f) V hl hp0 hp hv hn hb fun p' v' h fs hlt => absurd hlt (by omega)
  | d + 1, f, h, p, v, fs, hd, hp0, hp, hv, hn, hb => ins_step (g := f + 3 * (d + 1)) V hl hp0 hp hv hn hb fun p' v' h fs hlt hp0 hp hv hn hb k hk => by
    have := ins_ok V (N := N) hl d (f + k) (h := h) (p := p') (v := v') (fs := fs) (by omega) hp0 hp hv hn hb
    rw [show f + 3 * (d + 1) + 2 + k = f + k + 3 * d + 5 by omega]
    exact this
/-- what match_row gives -/
def RowR (res : List D × Rw) (h : Hh) (r : D) (h' : Hh) : Prop := Ext h h' ∧ match res.2 with
  | .yes => r = .ref h.length ∧ h'[h.length]? = some (.lst res.1)
  | .no => r = .non
  | .word w => r = .str w
theorem row_ok (V : MatT T k0 k1 k2 k3 k4 k5 k6) {env : List (List Nat × D)} (hl : env.length < 1000000) {d f : Nat} {h : Hh} {p : Pm} {v : Vq} (hd : p.dep ≤ d) (hp0 : p.isNil = false) (hp : Pm.Ok env p) (hv : Vq.whole v = true) (hb : p.nb ≤ 1000000) :
    Sat (sem T (f + 3 * d + 6) k6 [p.enc, v.enc, envD env] h) (RowR (matchQ env p v) h) := by
  refine .startA V.row rfl rfl ?_
  unfold rowB
  repeat walk_at "pi"
  refine (ins_ok V (N := h.length) hl d f hd hp0 hp hv at_push (by simpa using hb)).mono fun r h2 ⟨b2, e2, er⟩ => ?_
  subst er
  have x2 : Ext h h2 := ⟨Nat.le_trans (by simp) b2.1, fun i hi => by
    rw [b2.2 i (by simp; omega) (by omega)]
    exact List.getElem?_append_left hi⟩
  rw [List.nil_append] at e2
  unfold RowR
  cases hr : (matchQ env p v).2 with
  | yes =>
    simp only [Rw.enc]
    repeat walk_at "pi"
    exact ⟨x2, rfl, e2⟩
  | no =>
    simp only [Rw.enc]
    repeat walk_at "pi"
    exact ⟨x2, rfl⟩
  | word w =>
    simp only [Rw.enc]
    repeat walk_at "pi"
    exact ⟨x2, rfl⟩
end
/-! ### plain data -/
theorem plainL_of' {es : List D} (h : ∀ e ∈ es, D.plain e = true) : D.plainL es = true := by
  induction es with
  | nil => rfl
  | cons e es ih => rw [D.plainL, h e (by simp), ih fun x hx => h x (by simp [hx])]; rfl
theorem deepL_of' {ds : List D} {n : Nat} (h : ∀ d ∈ ds, D.deep d ≤ n) : D.deepL ds ≤ n := by
  induction ds with
  | nil => exact Nat.zero_le _
  | cons d ds ih =>
    have := h d (by simp)
    have := ih fun x hx => h x (by simp [hx])
    rw [D.deepL]
    omega
theorem plainL_mem' {es : List D} (h : D.plainL es = true) {e : D} (he : e ∈ es) : e.plain = true := by
  obtain ⟨i, hi, ei⟩ := List.mem_iff_getElem.mp he
  exact plainL_at h (by rw [List.getElem?_eq_getElem hi, ei])
theorem deepL_mem' {es : List D} {e : D} (he : e ∈ es) : e.deep ≤ D.deepL es := by
  obtain ⟨i, hi, ei⟩ := List.mem_iff_getElem.mp he
  exact deepL_at (by rw [List.getElem?_eq_getElem hi, ei])
/-- _law_same of two lists with the same items -/
theorem same_lists' {T : Nat → Df} {ks f m n : Nat} (hT : T ks = ⟨4, 2, sameB ks⟩) {xs : List D} {h : Hh} (e1 : h[m]? = some (.lst xs)) (e2 : h[n]? = some (.lst xs)) (hl : xs.length ≤ 1000000) (hx : ∀ x ∈ xs, x.plain = true ∧ x.deep ≤ f) : Sat (sem T (f + 2) ks [.ref m, .ref n] h) fun r h' => h' = h ∧ r = .bl true := by
  refine .start2 hT ?_
  unfold sameB
  repeat walk_at "pi"
  refine isaK.lst e1 ?_
  repeat walk_at "pi"
  refine isaK.lst e1 ?_
  repeat walk_at "pi"
  refine isaK.lst e2 ?_
  repeat walk_at "pi"
  refine Sat.lenL e1 ?_
  repeat walk_at "pi"
  refine Sat.lenL e2 ?_
  repeat walk_at "pi"
  refine ifK.t (decide_eq_true rfl) ?_
  repeat walk_at "pi"
  refine Sat.lenL e1 ?_
  repeat walk_at "pi"
  refine ⟨⟨by omega, by omega⟩, ?_⟩
  refine Sat.compIx (fun i acc h' => h' = h ∧ ∃ bls : List Bool, acc = bls.map .bl ∧ bls.length = i ∧ bls.all id = true) ⟨rfl, [], rfl, rfl, rfl⟩ (fun _ _ _ _ => rfl) (fun i d acc h' hd ⟨eh, bls, ea, el, eb⟩ => ?_) fun acc h' ⟨eh, bls, ea, el, eb⟩ => ?_
  · obtain ⟨hi, rfl⟩ := rng_at hd
    subst eh
    have hi : i < xs.length := by simpa using hi
    have e0 : (0 : Int) + (i : Int) = (i : Int) := by omega
    rw [e0]
    have gx := List.getElem?_eq_getElem hi
    obtain ⟨p1, p2⟩ := hx _ (List.getElem_mem hi)
    repeat walk_at "pi"
    refine Sat.ixL e1 (atIx_nat gx) ?_
    repeat walk_at "pi"
    refine Sat.ixL e2 (atIx_nat gx) ?_
    repeat walk_at "pi"
    refine (same_ok hT f _ _ _ p1 p1 p2).mono fun r h2 ⟨eh, er⟩ => ?_
    subst eh er
    rw [D.same_refl]
    subst ea
    exact ⟨by simp [el]; unfold SL; omega, rfl, bls ++ [true], by simp, by simp [el], by simp [eb]⟩
  · subst eh ea
    refine Sat.fAll (blsOf_map bls) ?_
    rw [eb]
    repeat walk_at "pi"
    exact ⟨rfl, rfl⟩
theorem hasV_good' {num : Nat → Int} : ∀ (n : Nat) (k : Kd) (v : Vq), k.Ok n → HasV num n k v → Vq.whole v = true ∧ v.enc.plain = true ∧ v.enc.deep ≤ 2 * n + 1
  | n, k, .int i, ok, h => ⟨rfl, rfl, by simp [Vq.enc, D.deep, D.deepL]⟩
  | n, k, .nil, ok, h => by cases n <;> cases k <;> exact h.elim
  | n, k, .oth _ _, ok, h => by cases n <;> cases k <;> exact h.elim
  | 0, k, .tup vs, ok, h => by cases k <;> exact h.elim
  | 0, k, .con a nm w, ok, h => by cases k <;> exact h.elim
  | 0, k, .pkt a nm w, ok, h => by cases k <;> exact h.elim
  | n + 1, k, .tup vs, ok, h => by
    cases k with
    | tup ks =>
      obtain ⟨hl, h⟩ := h
      have g : ∀ v ∈ vs, Vq.whole v = true ∧ v.enc.plain = true ∧ v.enc.deep ≤ 2 * n + 1 := fun v hv => by
        obtain ⟨i, hi, ei⟩ := List.mem_iff_getElem.mp hv
        have gk := List.getElem?_eq_getElem (l := ks) (i := i) (by omega)
        exact hasV_good' n _ v (ok.2.2 _ (List.mem_of_getElem? gk)) (h i _ v gk (by rw [List.getElem?_eq_getElem hi, ei]))
      have p1 : D.plainL (Vq.encL vs) = true := plainL_of' fun e he => by
        rw [vencL] at he
        obtain ⟨v, hv, rfl⟩ := List.mem_map.mp he
        exact (g v hv).2.1
      have p2 : D.deepL (Vq.encL vs) ≤ 2 * n + 1 := deepL_of' fun e he => by
        rw [vencL] at he
        obtain ⟨v, hv, rfl⟩ := List.mem_map.mp he
        exact (g v hv).2.2
      have hk := ok.1
      exact ⟨wholeL_of fun v hv => (g v hv).1, by simp [Vq.enc, D.plain, D.plainL, p1, vencL_len, SL]; omega, by simp only [Vq.enc, D.deep, D.deepL]; omega⟩
    | _ => exact h.elim
  | n + 1, k, .con a nm w, ok, h => by
    cases k with
    | con fam ks =>
      obtain ⟨k', p, h1, h2, h3, h4⟩ := h
      have g : (w = .nil ∨ Vq.whole w = true) ∧ w.enc.plain = true ∧ w.enc.deep ≤ 2 * n + 1 := by
        rcases h4 with ⟨_, rfl⟩ | h4
        · exact ⟨.inl rfl, rfl, by simp [Vq.enc, D.deep]⟩
        · have okk : k'.Ok n := by
            rcases ok.2.2.2.2 k' (List.mem_of_getElem? h1) with rfl | o
            · have := hasV_ne h4
              cases n <;> cases w <;> exact h4.elim
            · exact o
          obtain ⟨q1, q2, q3⟩ := hasV_good' n k' w okk h4
          exact ⟨.inr q1, q2, q3⟩
      refine ⟨?_, by simp [Vq.enc, D.plain, D.plainL, g.2.1, SL], by simp only [Vq.enc, D.deep, D.deepL]; omega⟩
      rw [whole_con]
      rcases g.1 with rfl | g
      · rfl
      · rw [g, Bool.or_true]
    | _ => exact h.elim
  | n + 1, k, .pkt a nm w, ok, h => by
    cases k with
    | pkt ks =>
      obtain ⟨_, h4⟩ := h
      have g : (w = .nil ∨ Vq.whole w = true) ∧ w.enc.plain = true ∧ w.enc.deep ≤ 2 * n + 1 := by
        rcases h4 with ⟨_, rfl⟩ | ⟨i, k', h1, _, ⟨_, rfl⟩ | h4⟩
        · exact ⟨.inl rfl, rfl, by simp [Vq.enc, D.deep]⟩
        · exact ⟨.inl rfl, rfl, by simp [Vq.enc, D.deep]⟩
        · have okk : k'.Ok n := by
            rcases ok.2 k' (List.mem_of_getElem? h1) with rfl | o
            · cases n <;> cases w <;> exact h4.elim
            · exact o
          obtain ⟨q1, q2, q3⟩ := hasV_good' n k' w okk h4
          exact ⟨.inr q1, q2, q3⟩
      refine ⟨?_, by simp [Vq.enc, D.plain, D.plainL, g.2.1, SL], by simp only [Vq.enc, D.deep, D.deepL]; omega⟩
      rw [whole_pkt]
      rcases g.1 with rfl | g
      · rfl
      · rw [g, Bool.or_true]
    | _ => exact h.elim
mutual
theorem matchQ_sub (env : List (List Nat × D)) (B : Nat) : ∀ (p : Pm) (v : Vq), v.enc.plain = true → v.enc.deep ≤ B → ∀ b ∈ (matchQ env p v).1, b.plain = true ∧ b.deep ≤ B + 1
  | .nil, v, h1, h2, b, hb => by cases v <;> simp [matchQ] at hb
  | .any, v, h1, h2, b, hb => by simp [matchQ] at hb
  | .var s, v, h1, h2, b, hb => by
    simp [matchQ] at hb
    subst hb
    exact ⟨by simp [D.plain, D.plainL, h1, SL], by simp [D.deep, D.deepL]; omega⟩
  | .as s p, v, h1, h2, b, hb => by
    simp only [matchQ, List.mem_cons] at hb
    rcases hb with rfl | hb
    · exact ⟨by simp [D.plain, D.plainL, h1, SL], by simp [D.deep, D.deepL]; omega⟩
    · exact matchQ_sub env B p v h1 h2 b hb
  | .int i, v, h1, h2, b, hb => by cases v <;> simp [matchQ] at hb
  | .tup ps, v, h1, h2, b, hb => by
    cases v with
    | tup vs =>
      rw [matchQ] at hb
      split at hb
      · have q1 : D.plainL (Vq.encL vs) = true := by
          simp [Vq.enc, D.plain, D.plainL] at h1
          exact h1.2.2
        have q2 : D.deepL (Vq.encL vs) ≤ B := by
          simp only [Vq.enc, D.deep, D.deepL] at h2
          omega
        exact matchL_sub env B ps vs q1 q2 b hb
      · cases hb
    | _ => simp [matchQ] at hb
  | .pkt ls x p, v, h1, h2, b, hb => by
    cases v with
    | pkt n nm w =>
      have q1 : w.enc.plain = true := by
        simp [Vq.enc, D.plain, D.plainL] at h1
        exact h1.2
      have q2 : w.enc.deep ≤ B := by
        simp only [Vq.enc, D.deep, D.deepL] at h2
        omega
      simp only [matchQ] at hb
      split at hb
      · cases hb
      · split at hb
        · unfold argQ at hb
          split at hb
          · split at hb
            · cases hb
            · exact matchQ_sub env B p w q1 q2 b hb
          · cases hb
        · cases hb
      · cases hb
    | _ => simp only [matchQ] at hb; split at hb <;> cases hb
  | .con fam a p, v, h1, h2, b, hb => by
    cases v with
    | con n nm w =>
      have q1 : w.enc.plain = true := by
        simp [Vq.enc, D.plain, D.plainL] at h1
        exact h1.2
      have q2 : w.enc.deep ≤ B := by
        simp only [Vq.enc, D.deep, D.deepL] at h2
        omega
      simp only [matchQ] at hb
      split at hb
      · split at hb
        · unfold argQ at hb
          split at hb
          · split at hb
            · cases hb
            · exact matchQ_sub env B p w q1 q2 b hb
          · cases hb
        · cases hb
      · cases hb
    | _ => simp [matchQ] at hb
theorem matchL_sub (env : List (List Nat × D)) (B : Nat) : ∀ (ps : List Pm) (vs : List Vq), D.plainL (Vq.encL vs) = true → D.deepL (Vq.encL vs) ≤ B → ∀ b ∈ (matchL env ps vs).1, b.plain = true ∧ b.deep ≤ B + 1
  | [], vs, _, _, b, hb => by cases vs <;> simp [matchL] at hb
  | p :: ps, [], _, _, b, hb => by simp [matchL] at hb
  | p :: ps, v :: vs, h1, h2, b, hb => by
    rw [Vq.encL, D.plainL, Bool.and_eq_true] at h1
    rw [Vq.encL, D.deepL] at h2
    rw [matchL] at hb
    split at hb
    · rcases List.mem_append.mp hb with w | w
      · exact matchQ_sub env B p v h1.1 (by omega) b w
      · exact matchL_sub env B ps vs h1.2 (by omega) b w
    · exact matchQ_sub env B p v h1.1 (by omega) b hb
end
end PI
/-! ## PiJ -/
set_option Elab.async false
set_option linter.all false
set_option maxRecDepth 100000
set_option maxHeartbeats 1000000
set_option autoImplicit false
/-! PI, helpers: sep.join, enumerate. -/
namespace PI
section
variable {a b : Den} {e : En} {h : Hh} {QW : Wk → Hh → Prop} {Q : D → Hh → Prop}
theorem Sat.wEnT (xs : List D) (s : Sat (a e h) fun x h1 => x = .tup xs ∧ QW (.its (enumD 0 xs)) h1) : Sat (wEnum a e h) QW := .bind (s.mono fun x h1 ⟨ex, q⟩ => by
  subst ex
  exact .ok q)
theorem Sat.wEnL (n : Nat) (xs : List D) (s : Sat (a e h) fun x h1 => x = .ref n ∧ h1[n]? = some (.lst xs) ∧ QW (.enl n xs) h1) : Sat (wEnum a e h) QW := .bind (s.mono fun x h1 ⟨ex, c, q⟩ => by
  subst ex
  simp only [lstAt, c]
  exact .ok q)
theorem Sat.joinC {s : List Nat} (q : Sat (b e h) fun y h2 => Sat (oJoin (.str s) y h2) Q) : Sat (dJoin (dC (.str s)) b e h) Q := .bind (.ok (.bind q))
instance {s : List Nat} : Red (Sat (dJoin (dC (.str s)) b e h) Q) (Sat (b e h) fun y h2 => Sat (oJoin (.str s) y h2) Q) := ⟨Sat.joinC⟩
theorem strsOf_map : ∀ ys : List (List Nat), strsOf (ys.map .str) = some ys
  | [] => rfl
  | y :: ys => by
    rw [List.map_cons, strsOf, strsOf_map ys]
    rfl
theorem Sat.oJoin {s : List Nat} {ys : List (List Nat)} {n : Nat} (e1 : h[n]? = some (.lst (ys.map .str))) (c : (ys.map List.length).sum + ys.length * s.length ≤ SL) (q : Q (.str (joinN s ys)) h) : Sat (oJoin (.str s) (.ref n) h) Q := by
  have c2 : joinOk s ys = true := decide_eq_true c
  simp only [PI.oJoin, itemsOf, listOf, lstAt, e1, Option.bind, strsOf_map, c2, if_true]
  exact .ok q
theorem Sat.iaddJ {x y : Int} (q : Q (.int (x + y)) h) : Sat (oIadd (.int x) (.int y) h) Q := .ok q
end
end PI
/-! ## PiQ -/
set_option Elab.async false
set_option linter.all false
set_option maxRecDepth 100000
set_option maxHeartbeats 2000000
set_option autoImplicit false
/-! PI, helpers: two patterns side by side (bare, parts_of, same_head, incompatible, below). -/
namespace PI
local macro_rules | `(tactic| walk_at "pi") => `(tactic| (
  first
  | (with_reducible refine PI.red ?_)
  | ((with_reducible show PI.Sat (PI.dVar _ _ _) _); refine Sat.var rfl ?_)
  | ((with_reducible show PI.Sat (PI.sAug _ _ _ _ _) _); refine Sat.aug rfl ?_)
  | ((with_reducible show PI.npK _ _ _); refine npK.mk rfl ?_)
  | ((with_reducible show PI.szK _ _); refine szK.mk (by simp only [List.length_cons, List.length_nil]; decide) ?_)
  | ((with_reducible show PI.isaK _ _ _ _); refine isaK.mk rfl ?_)
  | ((with_reducible show PI.ifK _ _ _); first | (refine ifK.t (by rfl) ?_) | (refine ifK.f (by rfl) ?_))
  | ((with_reducible show PI.Sat (PI.gTp _ _ _ _ _) _); refine Sat.gTp rfl ?_)
  | ((with_reducible show PI.Sat (PI.cIsB _ _ _) _); refine Sat.isB rfl ?_)
  | ((with_reducible show PI.Sat (PI.cNotB _ _ _) _); refine Sat.notB rfl ?_)
  | ((with_reducible show PI.Sat (PI.cIn _ (PI.D.tup _) _) _); refine Sat.inT rfl ?_)
  | ((with_reducible show PI.Sat (PI.cNin _ (PI.D.tup _) _) _); refine Sat.ninT rfl ?_)
  | ((with_reducible show PI.Sat (PI.cIsN _ _) _); refine Sat.isN rfl ?_)
  | ((with_reducible show PI.Sat (PI.cNotN _ _) _); refine Sat.notN rfl ?_)
  | ((with_reducible show PI.Sat (PI.oPow _ _ _) _); refine Sat.powI (by decide) ?_)))
def bareB (_ : Cal) : SDen :=
 (sSeq (sWhile (tV (dBin cEq (dBin oIx (dVar 0) (dC (.int 0))) (dC (.str t_as))))
 (sAsg (dBin oIx (dVar 0) (dC (.int 2))) (gNm 0)))
 (sRet (dIf (tV (dBin cEq (dBin oIx (dVar 0) (dC (.int 0))) (dC (.str t_var)))) (dC (.tup [.str t_any])) (dVar 0))))
def partsB (_ : Cal) : SDen :=
 (sSeq (sIf (tV (dBin cEq (dBin oIx (dVar 0) (dC (.int 0))) (dC (.str t_tuple))))
 (sRet (dArgs bList (aCons (dBin oIx (dVar 0) (dC (.int 1))) aNil)))
 sNil)
 (sSeq (sIf (PI.tAnd (tV (dBin cEq (dBin oIx (dVar 0) (dC (.int 0))) (dC (.str t_con)))) (tV (dUn cNotN (dBin oIx (dVar 0) (dC (.int 3))))))
 (sRet (dLst (aCons (dBin oIx (dVar 0) (dC (.int 3))) aNil)))
 sNil)
 (sSeq (sIf (PI.tAnd (tV (dBin cEq (dBin oIx (dVar 0) (dC (.int 0))) (dC (.str t_packet)))) (tV (dUn cNotN (dBin oIx (dVar 0) (dC (.int 2))))))
 (sRet (dLst (aCons (dBin oIx (dVar 0) (dC (.int 2))) aNil)))
 sNil)
 (sRet (dLst aNil)))))
def headB (_ : Cal) : SDen :=
 (sSeq (sIf (tV (dBin cNe (dBin oIx (dVar 0) (dC (.int 0))) (dBin oIx (dVar 1) (dC (.int 0)))))
 (sRet (dC (.bl false)))
 sNil)
 (sSeq (sIf (tV (dBin cEq (dBin oIx (dVar 0) (dC (.int 0))) (dC (.str t_int))))
 (sRet (dBin cEq (dBin oIx (dVar 0) (dC (.int 1))) (dBin oIx (dVar 1) (dC (.int 1)))))
 sNil)
 (sSeq (sIf (tV (dBin cEq (dBin oIx (dVar 0) (dC (.int 0))) (dC (.str t_con))))
 (sRet (dAnd (dBin cEq (dBin oIx (dVar 0) (dC (.int 1))) (dBin oIx (dVar 1) (dC (.int 1)))) (dBin cEq (dBin oIx (dVar 0) (dC (.int 2))) (dBin oIx (dVar 1) (dC (.int 2))))))
 sNil)
 (sSeq (sIf (tV (dBin cEq (dBin oIx (dVar 0) (dC (.int 0))) (dC (.str t_packet))))
 (sRet (dAnd (dBin cEq (dBin oIx (dVar 0) (dC (.int 1))) (dBin oIx (dVar 1) (dC (.int 1)))) (dBin cEq (dUn cIsN (dBin oIx (dVar 0) (dC (.int 2)))) (dUn cIsN (dBin oIx (dVar 1) (dC (.int 2)))))))
 sNil)
 (sRet (dBin cEq (dArgs bLen (aCons (dBin oIx (dVar 0) (dC (.int 1))) aNil)) (dArgs bLen (aCons (dBin oIx (dVar 1) (dC (.int 1))) aNil))))))))
def incB (k0 k1 k2 k3 : Nat) (c : Cal) : SDen :=
 (sSeq (sPar 0 1 (dCallN c k0 1 (aCons (dVar 0) aNil)) (dCallN c k0 1 (aCons (dVar 1) aNil)))
 (sSeq (sIf (PI.tOr (tV (dBin cEq (dVar 0) (dC (.tup [.str t_any])))) (tV (dBin cEq (dVar 1) (dC (.tup [.str t_any])))))
 (sRet (dC (.bl false)))
 sNil)
 (sSeq (sIf (PI.tNot (tT (dCallN c k2 2 (aCons (dVar 0) (aCons (dVar 1) aNil)))))
 (sRet (dC (.bl true)))
 sNil)
 (sSeq (sFor (wZip (dCallN c k1 1 (aCons (dVar 0) aNil)) (dCallN c k1 1 (aCons (dVar 1) aNil))) (gTp 2 (gsCons (gNm 2) (gsCons (gNm 3) gsNil)))
 (sIf (tT (dCallN c k3 2 (aCons (dVar 2) (aCons (dVar 3) aNil))))
 (sRet (dC (.bl true)))
 sNil))
 (sRet (dC (.bl false)))))))
def belB (k0 k1 k2 k4 : Nat) (c : Cal) : SDen :=
 (sSeq (sPar 0 1 (dCallN c k0 1 (aCons (dVar 0) aNil)) (dCallN c k0 1 (aCons (dVar 1) aNil)))
 (sSeq (sIf (tV (dBin cEq (dVar 1) (dC (.tup [.str t_any]))))
 (sRet (dC (.bl true)))
 sNil)
 (sSeq (sIf (PI.tOr (tV (dBin cEq (dVar 0) (dC (.tup [.str t_any])))) (PI.tNot (tT (dCallN c k2 2 (aCons (dVar 0) (aCons (dVar 1) aNil))))))
 (sRet (dC (.bl false)))
 sNil)
 (sSeq (sFor (wZip (dCallN c k1 1 (aCons (dVar 0) aNil)) (dCallN c k1 1 (aCons (dVar 1) aNil))) (gTp 2 (gsCons (gNm 2) (gsCons (gNm 3) gsNil)))
 (sIf (PI.tNot (tT (dCallN c k4 2 (aCons (dVar 2) (aCons (dVar 3) aNil)))))
 (sRet (dC (.bl false)))
 sNil))
 (sRet (dC (.bl true)))))))

structure PairT (T : Nat → Df) (k0 k1 k2 k3 k4 : Nat) : Prop where
  bare : T k0 = ⟨1, 1, bareB⟩
  parts : T k1 = ⟨1, 1, partsB⟩
  head : T k2 = ⟨2, 2, headB⟩
  inc : T k3 = ⟨4, 2, incB k0 k1 k2 k3⟩
  bel : T k4 = ⟨4, 2, belB k0 k1 k2 k4⟩
theorem path_fit (i : Nat) : (pathD i).fit = true := by
  match i with
  | 0 => decide
  | 1 => decide
  | n + 2 => show (pathD 2).fit = true; decide
theorem path_tup (i : Nat) : ∃ xs, pathD i = .tup xs := by
  match i with
  | 0 => exact ⟨_, rfl⟩
  | 1 => exact ⟨_, rfl⟩
  | n + 2 => exact ⟨_, rfl⟩
theorem path_eqv {i j : Nat} (hi : i < 3) (hj : j < 3) : D.eqv (pathD i) (pathD j) = decide (i = j) := by
  have a : i = 0 ∨ i = 1 ∨ i = 2 := by omega
  have b : j = 0 ∨ j = 1 ∨ j = 2 := by omega
  rcases a with rfl | rfl | rfl <;> rcases b with rfl | rfl | rfl <;> decide
theorem Sat.eqP' {i j : Nat} {h : Hh} {Q : D → Hh → Prop} (hi : i < 3) (hj : j < 3) (q : Q (.bl (decide (i = j))) h) : Sat (cEq (pathD i) (pathD j) h) Q := by
  rw [← path_eqv hi hj] at q
  obtain ⟨xs, ex⟩ := path_tup i
  obtain ⟨ys, ey⟩ := path_tup j
  have fx := path_fit i
  have fy := path_fit j
  rw [ex] at fx q ⊢
  rw [ey] at fy q ⊢
  exact Sat.eqT fx fy q
theorem flatL_of {ds : List D} (h : ∀ d ∈ ds, D.flat d = true) : D.flatL ds = true := by
  induction ds with
  | nil => rfl
  | cons d ds ih => rw [D.flatL, h d (by simp), ih fun x hx => h x (by simp [hx])]; rfl
theorem deepL_of {ds : List D} {n : Nat} (h : ∀ d ∈ ds, D.deep d ≤ n) : D.deepL ds ≤ n := by
  induction ds with
  | nil => exact Nat.zero_le _
  | cons d ds ih =>
    have := h d (by simp)
    have := ih fun x hx => h x (by simp [hx])
    rw [D.deepL]
    omega
theorem eqvL_len : ∀ {xs ys : List D}, D.eqvL xs ys = true → xs.length = ys.length ∧ ∀ (i : Nat) (x y : D), xs[i]? = some x → ys[i]? = some y → D.eqv x y = true
  | [], [], _ => ⟨rfl, by simp⟩
  | [], _ :: _, h => by simp [D.eqvL] at h
  | _ :: _, [], h => by simp [D.eqvL] at h
  | x :: xs, y :: ys, h => by
    rw [D.eqvL, Bool.and_eq_true] at h
    obtain ⟨h1, h2⟩ := eqvL_len h.2
    refine ⟨by simp [h1], fun i a b ha hb => ?_⟩
    cases i with
    | zero =>
      simp at ha hb
      subst ha hb
      exact h.1
    | succ i => exact h2 i a b (by simpa using ha) (by simpa using hb)
theorem list_ext {α : Type} {xs ys : List α} (hl : xs.length = ys.length) (h : ∀ (i : Nat) (x y : α), xs[i]? = some x → ys[i]? = some y → x = y) : xs = ys := by
  refine List.ext_getElem hl fun i h1 h2 => ?_
  exact h i _ _ (List.getElem?_eq_getElem h1) (List.getElem?_eq_getElem h2)
theorem eqR_fit {h : Hh} {x y : D} (cx : x.fit = true) (cy : y.fit = true) : eqR h x y = some (D.eqv x y) := by
  have lx : listOf h x = none := by cases x <;> first | rfl | (simp [D.fit, D.flat] at cx)
  have ly : listOf h y = none := by cases y <;> first | rfl | (simp [D.fit, D.flat] at cy)
  unfold eqR
  split
  · rfl
  · simp only [lx, ly, cx, cy]
    rfl
theorem Sat.neF {x y : D} {h : Hh} {Q : D → Hh → Prop} (cx : x.fit = true) (cy : y.fit = true) (q : Q (.bl (!D.eqv x y)) h) : Sat (cNe x y h) Q := by
  simp only [cNe, eqR_fit cx cy]
  exact .ok q
theorem Sat.neP' {i j : Nat} {h : Hh} {Q : D → Hh → Prop} (hi : i < 3) (hj : j < 3) (q : Q (.bl (!decide (i = j))) h) : Sat (cNe (pathD i) (pathD j) h) Q := by
  rw [← path_eqv hi hj] at q
  obtain ⟨xs, ex⟩ := path_tup i
  obtain ⟨ys, ey⟩ := path_tup j
  have fx := path_fit i
  have fy := path_fit j
  rw [ex] at fx q ⊢
  rw [ey] at fy q ⊢
  exact Sat.neT fx fy q
theorem Sat.neF' {x y : D} {h : Hh} {Q : D → Hh → Prop} (cx : x.fit = true) (cy : y.fit = true) (q : Q (.bl (!D.eqv x y)) h) : Sat (cNe x y h) Q := by
  simp only [cNe, eqR_fit cx cy]
  exact .ok q
theorem Sat.eqF {x y : D} {h : Hh} {Q : D → Hh → Prop} (cx : x.fit = true) (cy : y.fit = true) (q : Q (.bl (D.eqv x y)) h) : Sat (cEq x y h) Q := by
  simp only [cEq, eqR_fit cx cy]
  exact .ok q
/-! ### pairs of patterns -/
def bareP : Pt → Pt
  | .as _ p => bareP p
  | .var _ => .any
  | p => p
def Pt.isAny : Pt → Bool
  | .any => true
  | _ => false
def parts : Pt → List Pt
  | .tup ps => ps
  | .con _ _ p => if p.isNil = true then [] else [p]
  | .pkt _ p => if p.isNil = true then [] else [p]
  | _ => []
def headQ : Pt → Pt → Bool
  | .int i, .int j => decide (i = j)
  | .tup ps, .tup qs => decide (ps.length = qs.length)
  | .con f a _, .con g b _ => decide (f = g) && decide (a = b)
  | .pkt i p, .pkt j q => decide (i = j) && decide (p.isNil = q.isNil)
  | _, _ => false
def anyZ (f : Pt → Pt → Bool) : List Pt → List Pt → Bool
  | p :: ps, q :: qs => f p q || anyZ f ps qs
  | _, _ => false
def allZ (f : Pt → Pt → Bool) : List Pt → List Pt → Bool
  | p :: ps, q :: qs => f p q && allZ f ps qs
  | _, _ => true
def incQ : Nat → Pt → Pt → Bool
  | 0, _, _ => false
  | d + 1, p, q => if ((bareP p).isAny || (bareP q).isAny) = true then false else if headQ (bareP p) (bareP q) = true then anyZ (incQ d) (parts (bareP p)) (parts (bareP q)) else true
def belQ : Nat → Pt → Pt → Bool
  | 0, _, _ => false
  | d + 1, p, q => if (bareP q).isAny = true then true else if (bareP p).isAny = true then false else if headQ (bareP p) (bareP q) = true then allZ (belQ d) (parts (bareP p)) (parts (bareP q)) else false
def sfl (s : List Nat) : Bool := s.all (· < 0x110000)
mutual
/-- well formed: texts of characters, the three paths, arguments where the family has them -/
def Pt.fl : Pt → Bool
  | .var s => sfl s
  | .as s p => sfl s && (!p.isNil && p.fl)
  | .tup ps => decide (ps.length ≤ 1000) && Pt.flL ps
  | .pkt i p => decide (i < 3) && p.fl
  | .con fam a p => fam.all (fun q => sfl q.1) && (decide ((fam[a]?).map (·.2) = some (!p.isNil)) && p.fl)
  | _ => true
def Pt.flL : List Pt → Bool
  | [] => true
  | p :: ps => (!p.isNil && p.fl) && Pt.flL ps
end
theorem flL_mem {ps : List Pt} (h : Pt.flL ps = true) : ∀ p ∈ ps, p.isNil = false ∧ p.fl = true := by
  induction ps with
  | nil => simp
  | cons q ps ih =>
    simp only [Pt.flL, Bool.and_eq_true, Bool.not_eq_true'] at h
    intro p hp
    rcases List.mem_cons.mp hp with rfl | hp
    · exact h.1
    · exact ih h.2 p hp
theorem fam_flat {fam : List (List Nat × Bool)} (h : fam.all (fun q => sfl q.1) = true) : D.flatL (famD fam) = true := flatL_of fun d hd => by
  obtain ⟨q, hq, rfl⟩ := List.mem_map.mp hd
  have := List.all_eq_true.mp h q hq
  simp only [D.flat, D.flatL, Bool.and_true]
  exact this
mutual
theorem fl_flat : ∀ (p : Pt), p.fl = true → p.enc.flat = true
  | .nil, _ => rfl
  | .any, _ => by decide
  | .var s, h => by
    simp only [Pt.enc, D.flat, D.flatL, Bool.and_true]
    rw [show s.all (· < 0x110000) = true from h]
    decide
  | .as s p, h => by
    simp only [Pt.fl, Bool.and_eq_true] at h
    simp only [Pt.enc, D.flat, D.flatL, Bool.and_true, fl_flat p h.2.2]
    rw [show s.all (· < 0x110000) = true from h.1]
    decide
  | .int i, _ => by simp only [Pt.enc, D.flat, D.flatL, Bool.and_true]; decide
  | .tup ps, h => by
    simp only [Pt.fl, Bool.and_eq_true] at h
    simp only [Pt.enc, D.flat, D.flatL, Bool.and_true, flL_flat ps h.2]
    decide
  | .pkt i p, h => by
    simp only [Pt.fl, Bool.and_eq_true] at h
    have := path_fit i
    simp only [D.fit, Bool.and_eq_true] at this
    simp only [Pt.enc, D.flat, D.flatL, Bool.and_true, fl_flat p h.2, this.1]
    decide
  | .con fam a p, h => by
    simp only [Pt.fl, Bool.and_eq_true] at h
    simp only [Pt.enc, D.flat, D.flatL, Bool.and_true, fl_flat p h.2.2, fam_flat h.1]
    decide
theorem flL_flat : ∀ (ps : List Pt), Pt.flL ps = true → D.flatL (Pt.encL ps) = true
  | [], _ => rfl
  | p :: ps, h => by
    simp only [Pt.flL, Bool.and_eq_true] at h
    rw [Pt.encL, D.flatL, fl_flat p h.1.2, flL_flat ps h.2]
    rfl
end
/-- fit to be compared -/
structure Ft (p : Pt) : Prop where
  ne : p.isNil = false
  fl : p.fl = true
  deep : p.enc.deep ≤ 60
  dep : p.dep ≤ 1000
theorem Ft.fit {p : Pt} (h : Ft p) : p.enc.fit = true := by
  rw [D.fit, fl_flat p h.fl, decide_eq_true h.deep]
  rfl
theorem Ft.any : Ft .any := ⟨rfl, rfl, by decide, by decide⟩
theorem Ft.bare : ∀ {p : Pt}, Ft p → Ft (bareP p)
  | .nil, h => h
  | .any, h => h
  | .var _, h => .any
  | .as s p, h => by
    have h2 := h.fl
    have h3 := h.deep
    have h4 := h.dep
    simp only [Pt.fl, Bool.and_eq_true, Bool.not_eq_true'] at h2
    simp only [Pt.enc, D.deep, D.deepL] at h3
    simp only [Pt.dep] at h4
    exact Ft.bare (p := p) ⟨h2.2.1, h2.2.2, by omega, by omega⟩
  | .int _, h => h
  | .tup _, h => h
  | .pkt _ _, h => h
  | .con _ _ _, h => h
/-- neither a name nor around one -/
def Pt.bared : Pt → Bool
  | .as _ _ => false
  | .var _ => false
  | .nil => false
  | _ => true
theorem bared_bare : ∀ {p : Pt}, p.isNil = false → p.fl = true → (bareP p).bared = true
  | .nil, h, _ => by cases h
  | .any, _, _ => rfl
  | .var _, _, _ => rfl
  | .as s p, _, h => by
    simp only [Pt.fl, Bool.and_eq_true, Bool.not_eq_true'] at h
    exact bared_bare (p := p) h.2.1 h.2.2
  | .int _, _, _ => rfl
  | .tup _, _, _ => rfl
  | .pkt _ _, _, _ => rfl
  | .con _ _ _, _, _ => rfl
theorem bare_dep : ∀ (p : Pt), (bareP p).dep ≤ p.dep
  | .nil => Nat.le_refl _
  | .any => Nat.le_refl _
  | .var _ => Nat.le_refl _
  | .as s p => Nat.le_trans (bare_dep p) (by simp only [Pt.dep]; omega)
  | .int _ => Nat.le_refl _
  | .tup _ => Nat.le_refl _
  | .pkt _ _ => Nat.le_refl _
  | .con _ _ _ => Nat.le_refl _
theorem bare_bare : ∀ (p : Pt), bareP (bareP p) = bareP p
  | .nil => rfl
  | .any => rfl
  | .var _ => rfl
  | .as s p => bare_bare p
  | .int _ => rfl
  | .tup _ => rfl
  | .pkt _ _ => rfl
  | .con _ _ _ => rfl
theorem Ft.parts {p : Pt} (h : Ft p) : ∀ q ∈ PI.parts p, Ft q ∧ q.dep < p.dep := by
  intro q hq
  have h2 := h.fl
  have h3 := h.deep
  have h4 := h.dep
  cases p with
  | tup ps =>
    have hq : q ∈ ps := hq
    simp only [Pt.fl, Bool.and_eq_true] at h2
    simp only [Pt.enc, D.deep, D.deepL] at h3
    simp only [Pt.dep] at h4 ⊢
    obtain ⟨a1, a2⟩ := flL_mem h2.2 q hq
    have a3 := (pdepL_at (n := Pt.depL ps)).mp (Nat.le_refl _) q hq
    have a4 : q.enc.deep ≤ D.deepL (Pt.encL ps) := by
      obtain ⟨i, hi, ei⟩ := List.mem_iff_getElem.mp hq
      have g := pencL_at (List.getElem?_eq_getElem hi)
      rw [ei] at g
      exact deepL_at g
    exact ⟨⟨a1, a2, by omega, by omega⟩, by omega⟩
  | con fam a p =>
    simp only [PI.parts] at hq
    split at hq
    · cases hq
    · rename_i hn
      rw [List.mem_singleton.mp hq]
      simp only [Pt.fl, Bool.and_eq_true] at h2
      simp only [Pt.enc, D.deep, D.deepL] at h3
      simp only [Pt.dep] at h4 ⊢
      exact ⟨⟨by simpa using hn, h2.2.2, by omega, by omega⟩, by omega⟩
  | pkt i p =>
    simp only [PI.parts] at hq
    split at hq
    · cases hq
    · rename_i hn
      rw [List.mem_singleton.mp hq]
      simp only [Pt.fl, Bool.and_eq_true] at h2
      simp only [Pt.enc, D.deep, D.deepL] at h3
      simp only [Pt.dep] at h4 ⊢
      exact ⟨⟨by simpa using hn, h2.2, by omega, by omega⟩, by omega⟩
  | _ => cases hq
theorem parts_len {p : Pt} (h : p.fl = true) : (PI.parts p).length ≤ 1000 := by
  cases p with
  | tup ps =>
    simp only [Pt.fl, Bool.and_eq_true, decide_eq_true_eq] at h
    exact h.1
  | con fam a p => simp only [PI.parts]; split <;> simp
  | pkt i p => simp only [PI.parts]; split <;> simp
  | _ => exact Nat.zero_le _
theorem eqv_any {p : Pt} (h : p.isNil = false) : D.eqv p.enc (.tup [.str t_any]) = p.isAny := by
  cases p <;> first
    | (simp [Pt.isNil] at h; done)
    | rfl
    | (simp [Pt.enc, D.eqv, D.eqvL, t_any, t_var, t_as, t_int, t_tuple, t_packet, t_con, Pt.isAny])
theorem fam_eqv {f g : List (List Nat × Bool)} : D.eqvL (famD f) (famD g) = decide (f = g) := by
  by_cases c : f = g
  · subst c
    rw [decide_eq_true rfl]
    induction f with
    | nil => rfl
    | cons x f ih =>
      show (D.eqv (.tup [.str x.1, .bl x.2]) (.tup [.str x.1, .bl x.2]) && D.eqvL (famD f) (famD f)) = true
      rw [ih]
      simp [D.eqv, D.eqvL]
  · rw [decide_eq_false c]
    cases e : D.eqvL (famD f) (famD g) with
    | false => rfl
    | true =>
      obtain ⟨l2, g2⟩ := eqvL_len e
      refine absurd (list_ext (by simpa [famD] using l2) fun i x y hx hy => ?_) c
      have h := g2 i _ _ (show (famD f)[i]? = some (.tup [.str x.1, .bl x.2]) by simp [famD, hx]) (show (famD g)[i]? = some (.tup [.str y.1, .bl y.2]) by simp [famD, hy])
      simp only [D.eqv, D.eqvL, Bool.and_true, Bool.and_eq_true, beq_iff_eq] at h
      exact Prod.ext h.1 h.2
section
variable {T : Nat → Df} {k0 k1 k2 k3 k4 f : Nat}
theorem bare_ok (V : PairT T k0 k1 k2 k3 k4) {h : Hh} {p : Pt} (hp : Ft p) : Sat (sem T (f + 1) k0 [p.enc] h) fun r h' => h' = h ∧ r = (bareP p).enc := by
  refine .startA V.bare rfl rfl ?_
  unfold bareB
  repeat walk_at "pi"
  refine Sat.whGo (fun m e h' => h' = h ∧ ∃ q : Pt, e = [some q.enc] ∧ bareP q = bareP p ∧ q.isNil = false ∧ q.fl = true ∧ q.dep = m) p.dep ⟨rfl, p, rfl, rfl, hp.ne, hp.fl, rfl⟩ (fun m e h' ⟨eh, q, ee, hq, hn, hf, hm⟩ => ?_) (by have := hp.dep; unfold WF; omega)
  subst eh ee
  cases q with
  | nil => cases hn
  | as s q =>
    simp only [Pt.enc]
    simp only [Pt.fl, Bool.and_eq_true, Bool.not_eq_true'] at hf
    repeat walk_at "pi"
    exact ⟨q.dep, by simp only [Pt.dep] at hm; omega, rfl, q, rfl, hq, hf.2.1, hf.2.2, rfl⟩
  | _ =>
    simp only [Pt.enc]
    repeat walk_at "pi"
    exact ⟨rfl, by rw [← hq]; rfl⟩
theorem parts_ok (V : PairT T k0 k1 k2 k3 k4) {h : Hh} {p : Pt} (hp : p.isNil = false) : Sat (sem T (f + 1) k1 [p.enc] h) fun r h' => h' = h ++ [.lst (Pt.encL (parts p))] ∧ r = .ref h.length := by
  refine .startA V.parts rfl rfl ?_
  unfold partsB
  cases p with
  | nil => cases hp
  | con fam a p =>
    simp only [Pt.enc]
    repeat walk_at "pi"
    refine Sat.notN (isN_p p) ?_
    simp only [parts]
    cases hz : p.isNil with
    | true =>
      repeat walk_at "pi"
      exact ⟨rfl, rfl⟩
    | false =>
      repeat walk_at "pi"
      exact ⟨rfl, rfl⟩
  | pkt i p =>
    simp only [Pt.enc]
    repeat walk_at "pi"
    refine Sat.notN (isN_p p) ?_
    simp only [parts]
    cases hz : p.isNil with
    | true =>
      repeat walk_at "pi"
      exact ⟨rfl, rfl⟩
    | false =>
      repeat walk_at "pi"
      exact ⟨rfl, rfl⟩
  | _ =>
    simp only [Pt.enc]
    repeat walk_at "pi"
    exact ⟨rfl, rfl⟩
theorem head_ok (V : PairT T k0 k1 k2 k3 k4) {h : Hh} {p q : Pt} (hp : Ft p) (hq : Ft q) (bp : p.bared = true) (bq : q.bared = true) (ap : p.isAny = false) (aq : q.isAny = false) : Sat (sem T (f + 1) k2 [p.enc, q.enc] h) fun r h' => h' = h ∧ r = .bl (headQ p q) := by
  refine .startA V.head rfl rfl ?_
  unfold headB
  have fp := hp.fl
  have fq := hq.fl
  have dp := hp.deep
  have dq := hq.deep
  cases p with
  | nil => cases bp
  | as _ _ => cases bp
  | var _ => cases bp
  | any => cases ap
  | int i =>
    cases q <;> first
      | (simp [Pt.bared] at bq; done)
      | (simp [Pt.isAny] at aq; done)
      | (simp only [Pt.enc]
         repeat walk_at "pi"
         exact ⟨rfl, rfl⟩)
  | tup ps =>
    cases q <;> first
      | (simp [Pt.bared] at bq; done)
      | (simp [Pt.isAny] at aq; done)
      | (simp only [Pt.enc]
         repeat walk_at "pi"
         exact ⟨rfl, by simp [headQ, pencL_len] <;> omega⟩)
  | pkt i p =>
    cases q with
    | nil => cases bq
    | as _ _ => cases bq
    | var _ => cases bq
    | any => cases aq
    | pkt j q =>
      simp only [Pt.fl, Bool.and_eq_true, decide_eq_true_eq] at fp fq
      simp only [Pt.enc]
      repeat walk_at "pi"
      refine Sat.eqP' fp.1 fq.1 ?_
      repeat walk_at "pi"
      by_cases c : i = j
      · rw [decide_eq_true c]
        repeat walk_at "pi"
        refine Sat.isN (isN_p p) ?_
        repeat walk_at "pi"
        refine Sat.isN (isN_p q) ?_
        repeat walk_at "pi"
        exact ⟨rfl, by simp [headQ, c]⟩
      · rw [decide_eq_false c]
        repeat walk_at "pi"
        exact ⟨rfl, by simp [headQ, c]⟩
    | _ =>
      simp only [Pt.enc]
      repeat walk_at "pi"
      exact ⟨rfl, rfl⟩
  | con fam a p =>
    cases q with
    | nil => cases bq
    | as _ _ => cases bq
    | var _ => cases bq
    | any => cases aq
    | con fam2 b q =>
      simp only [Pt.fl, Bool.and_eq_true] at fp fq
      simp only [Pt.enc, D.deep, D.deepL] at dp dq
      have f1 : (D.tup (famD fam)).fit = true := by
        rw [D.fit, D.flat, fam_flat fp.1, D.deep, decide_eq_true (by omega)]
        rfl
      have f2 : (D.tup (famD fam2)).fit = true := by
        rw [D.fit, D.flat, fam_flat fq.1, D.deep, decide_eq_true (by omega)]
        rfl
      simp only [Pt.enc]
      repeat walk_at "pi"
      refine Sat.eqF f1 f2 ?_
      rw [D.eqv, fam_eqv]
      repeat walk_at "pi"
      by_cases c : fam = fam2
      · rw [decide_eq_true c]
        repeat walk_at "pi"
        refine ⟨rfl, ?_⟩
        simp [headQ, c]
        omega
      · rw [decide_eq_false c]
        repeat walk_at "pi"
        exact ⟨rfl, by simp [headQ, c]⟩
    | _ =>
      simp only [Pt.enc]
      repeat walk_at "pi"
      exact ⟨rfl, rfl⟩
theorem any_fit : (D.tup [.str t_any]).fit = true := by decide
theorem zip_at' {ps qs : List Pt} {i : Nat} {d : D} (e : (zipD (Pt.encL ps) (Pt.encL qs))[i]? = some d) : ∃ p q, ps[i]? = some p ∧ qs[i]? = some q ∧ d = .tup [p.enc, q.enc] := by
  obtain ⟨x, y, h1, h2, rfl⟩ := zipD_at e
  rw [pencL, List.getElem?_map, Option.map_eq_some_iff] at h1 h2
  obtain ⟨p, g1, rfl⟩ := h1
  obtain ⟨v, g2, rfl⟩ := h2
  exact ⟨p, v, g1, g2, rfl⟩
theorem anyZ_at {g : Pt → Pt → Bool} {ps qs : List Pt} {i : Nat} {p q : Pt} (hp : ps[i]? = some p) (hq : qs[i]? = some q) : anyZ g (ps.drop i) (qs.drop i) = (g p q || anyZ g (ps.drop (i + 1)) (qs.drop (i + 1))) := by
  obtain ⟨h1, e1⟩ := List.getElem?_eq_some_iff.mp hp
  obtain ⟨h2, e2⟩ := List.getElem?_eq_some_iff.mp hq
  rw [List.drop_eq_getElem_cons h1, List.drop_eq_getElem_cons h2, e1, e2, anyZ]
theorem allZ_at {g : Pt → Pt → Bool} {ps qs : List Pt} {i : Nat} {p q : Pt} (hp : ps[i]? = some p) (hq : qs[i]? = some q) : allZ g (ps.drop i) (qs.drop i) = (g p q && allZ g (ps.drop (i + 1)) (qs.drop (i + 1))) := by
  obtain ⟨h1, e1⟩ := List.getElem?_eq_some_iff.mp hp
  obtain ⟨h2, e2⟩ := List.getElem?_eq_some_iff.mp hq
  rw [List.drop_eq_getElem_cons h1, List.drop_eq_getElem_cons h2, e1, e2, allZ]
theorem anyZ_end {g : Pt → Pt → Bool} {ps qs : List Pt} {i : Nat} (h : min ps.length qs.length ≤ i) : anyZ g (ps.drop i) (qs.drop i) = false := by
  rcases Nat.le_total ps.length qs.length with c | c
  · rw [List.drop_eq_nil_of_le (as := ps) (by omega)]
    rfl
  · rw [List.drop_eq_nil_of_le (as := qs) (by omega)]
    cases ps.drop i <;> rfl
theorem allZ_end {g : Pt → Pt → Bool} {ps qs : List Pt} {i : Nat} (h : min ps.length qs.length ≤ i) : allZ g (ps.drop i) (qs.drop i) = true := by
  rcases Nat.le_total ps.length qs.length with c | c
  · rw [List.drop_eq_nil_of_le (as := ps) (by omega)]
    rfl
  · rw [List.drop_eq_nil_of_le (as := qs) (by omega)]
    cases ps.drop i <;> rfl
theorem inc_ok (V : PairT T k0 k1 k2 k3 k4) : ∀ (d f : Nat) {h : Hh} {p q : Pt}, p.dep < d → Ft p → Ft q → Sat (sem T (f + d + 1) k3 [p.enc, q.enc] h) fun r h' => Ext h h' ∧ r = .bl (incQ d p q)
  | 0, f, h, p, q, hd, _, _ => absurd hd (by omega)
  | d + 1, f, h, p, q, hd, hp, hq => by
    refine .startA V.inc rfl rfl ?_
    unfold incB
    repeat walk_at "pi"
    refine (bare_ok V hp).mono fun r h2 ⟨eh, er⟩ => ?_
    subst eh er
    repeat walk_at "pi"
    refine (bare_ok V hq).mono fun r h2 ⟨eh, er⟩ => ?_
    subst eh er
    have bp := hp.bare
    have bq := hq.bare
    have cp := bared_bare hp.ne hp.fl
    have cq := bared_bare hq.ne hq.fl
    have dp := bare_dep p
    rw [incQ]
    generalize bareP p = p at *
    generalize bareP q = q at *
    repeat walk_at "pi"
    refine Sat.eqF bp.fit any_fit ?_
    rw [eqv_any bp.ne]
    repeat walk_at "pi"
    cases ap : p.isAny with
    | true =>
      repeat walk_at "pi"
      exact ⟨Ext.refl _, rfl⟩
    | false =>
      repeat walk_at "pi"
      refine Sat.eqF bq.fit any_fit ?_
      rw [eqv_any bq.ne]
      repeat walk_at "pi"
      cases aq : q.isAny with
      | true =>
        repeat walk_at "pi"
        exact ⟨Ext.refl _, rfl⟩
      | false =>
        repeat walk_at "pi"
        refine (head_ok V bp bq cp cq ap aq).mono fun r h3 ⟨eh, er⟩ => ?_
        subst eh er
        cases hh : headQ p q with
        | false =>
          repeat walk_at "pi"
          exact ⟨Ext.refl _, rfl⟩
        | true =>
          repeat walk_at "pi"
          refine (parts_ok V bp.ne).mono fun r h4 ⟨eh, er⟩ => ?_
          subst eh er
          repeat walk_at "pi"
          refine (parts_ok V bq.ne).mono fun r h4 ⟨eh, er⟩ => ?_
          subst eh er
          have e1 : (h3 ++ [Ob.lst (Pt.encL (parts p))] ++ [Ob.lst (Pt.encL (parts q))])[h3.length]? = some (.lst (Pt.encL (parts p))) := Ext.push.at at_push
          refine zwK.lst e1 at_push ?_
          have e2 : (h3 ++ [Ob.lst (Pt.encL (parts p))] ++ [Ob.lst (Pt.encL (parts q))])[(h3 ++ [Ob.lst (Pt.encL (parts p))]).length]? = some (.lst (Pt.encL (parts q))) := at_push
          have x0 : Ext h3 (h3 ++ [Ob.lst (Pt.encL (parts p))] ++ [Ob.lst (Pt.encL (parts q))]) := Ext.push.trans Ext.push
          revert e1 e2 x0
          generalize (h3 ++ [Ob.lst (Pt.encL (parts p))]).length = L
          generalize h3 ++ [Ob.lst (Pt.encL (parts p))] ++ [Ob.lst (Pt.encL (parts q))] = h5
          intro e1 e2 x0
          refine Sat.forIx (fun i e h' => Ext h5 h' ∧ (∃ w2 w3, e = [some p.enc, some q.enc, w2, w3]) ∧ anyZ (incQ d) (parts p) (parts q) = anyZ (incQ d) ((parts p).drop i) ((parts q).drop i)) ⟨Ext.refl _, ⟨_, _, rfl⟩, rfl⟩ (fun i e h' ⟨x, _⟩ => Wk.still_zpl (by simp only [lstAt, x.at e1]) (by simp only [lstAt, x.at e2])) (fun i dd e h' hd2 ⟨x, ⟨w2, w3, ee⟩, hz⟩ => ?_) fun e h' ⟨x, ⟨w2, w3, ee⟩, hz⟩ => ?_
          · obtain ⟨p1, q1, gp, gq, rfl⟩ := zip_at' (show (zipD (Pt.encL (parts p)) (Pt.encL (parts q)))[i]? = some dd from hd2)
            subst ee
            obtain ⟨fp1, dp1⟩ := bp.parts p1 (List.mem_of_getElem? gp)
            obtain ⟨fq1, _⟩ := bq.parts q1 (List.mem_of_getElem? gq)
            rw [anyZ_at gp gq] at hz
            repeat walk_at "pi"
            refine (inc_ok V d f (by omega) fp1 fq1).mono fun r h6 ⟨x6, er⟩ => ?_
            subst er
            cases hr : incQ d p1 q1 with
            | true =>
              repeat walk_at "pi"
              rw [hr] at hz
              exact ⟨(x0.trans x).trans x6, by simp [hz]⟩
            | false =>
              repeat walk_at "pi"
              rw [hr, Bool.false_or] at hz
              exact ⟨x.trans x6, ⟨_, _, rfl⟩, hz⟩
          · subst ee
            rw [anyZ_end (by
              show _ ≤ (zipD (Pt.encL (parts p)) (Pt.encL (parts q))).length
              rw [zipD_len, pencL_len, pencL_len]; exact Nat.le_refl _)] at hz
            repeat walk_at "pi"
            exact ⟨x0.trans x, by simp [hz]⟩
theorem bel_ok (V : PairT T k0 k1 k2 k3 k4) : ∀ (d f : Nat) {h : Hh} {p q : Pt}, p.dep < d → Ft p → Ft q → Sat (sem T (f + d + 1) k4 [p.enc, q.enc] h) fun r h' => Ext h h' ∧ r = .bl (belQ d p q)
  | 0, f, h, p, q, hd, _, _ => absurd hd (by omega)
  | d + 1, f, h, p, q, hd, hp, hq => by
    refine .startA V.bel rfl rfl ?_
    unfold belB
    repeat walk_at "pi"
    refine (bare_ok V hp).mono fun r h2 ⟨eh, er⟩ => ?_
    subst eh er
    repeat walk_at "pi"
    refine (bare_ok V hq).mono fun r h2 ⟨eh, er⟩ => ?_
    subst eh er
    have bp := hp.bare
    have bq := hq.bare
    have cp := bared_bare hp.ne hp.fl
    have cq := bared_bare hq.ne hq.fl
    have dp := bare_dep p
    rw [belQ]
    generalize bareP p = p at *
    generalize bareP q = q at *
    repeat walk_at "pi"
    refine Sat.eqF bq.fit any_fit ?_
    rw [eqv_any bq.ne]
    repeat walk_at "pi"
    cases aq : q.isAny with
    | true =>
      repeat walk_at "pi"
      exact ⟨Ext.refl _, rfl⟩
    | false =>
      repeat walk_at "pi"
      refine Sat.eqF bp.fit any_fit ?_
      rw [eqv_any bp.ne]
      repeat walk_at "pi"
      cases ap : p.isAny with
      | true =>
        repeat walk_at "pi"
        exact ⟨Ext.refl _, rfl⟩
      | false =>
        repeat walk_at "pi"
        refine (head_ok V bp bq cp cq ap aq).mono fun r h3 ⟨eh, er⟩ => ?_
        subst eh er
        cases hh : headQ p q with
        | false =>
          repeat walk_at "pi"
          exact ⟨Ext.refl _, rfl⟩
        | true =>
          repeat walk_at "pi"
          refine (parts_ok V bp.ne).mono fun r h4 ⟨eh, er⟩ => ?_
          subst eh er
          repeat walk_at "pi"
          refine (parts_ok V bq.ne).mono fun r h4 ⟨eh, er⟩ => ?_
          subst eh er
          have e1 : (h3 ++ [Ob.lst (Pt.encL (parts p))] ++ [Ob.lst (Pt.encL (parts q))])[h3.length]? = some (.lst (Pt.encL (parts p))) := Ext.push.at at_push
          refine zwK.lst e1 at_push ?_
          have e2 : (h3 ++ [Ob.lst (Pt.encL (parts p))] ++ [Ob.lst (Pt.encL (parts q))])[(h3 ++ [Ob.lst (Pt.encL (parts p))]).length]? = some (.lst (Pt.encL (parts q))) := at_push
          have x0 : Ext h3 (h3 ++ [Ob.lst (Pt.encL (parts p))] ++ [Ob.lst (Pt.encL (parts q))]) := Ext.push.trans Ext.push
          revert e1 e2 x0
          generalize (h3 ++ [Ob.lst (Pt.encL (parts p))]).length = L
          generalize h3 ++ [Ob.lst (Pt.encL (parts p))] ++ [Ob.lst (Pt.encL (parts q))] = h5
          intro e1 e2 x0
          refine Sat.forIx (fun i e h' => Ext h5 h' ∧ (∃ w2 w3, e = [some p.enc, some q.enc, w2, w3]) ∧ allZ (belQ d) (parts p) (parts q) = allZ (belQ d) ((parts p).drop i) ((parts q).drop i)) ⟨Ext.refl _, ⟨_, _, rfl⟩, rfl⟩ (fun i e h' ⟨x, _⟩ => Wk.still_zpl (by simp only [lstAt, x.at e1]) (by simp only [lstAt, x.at e2])) (fun i dd e h' hd2 ⟨x, ⟨w2, w3, ee⟩, hz⟩ => ?_) fun e h' ⟨x, ⟨w2, w3, ee⟩, hz⟩ => ?_
          · obtain ⟨p1, q1, gp, gq, rfl⟩ := zip_at' (show (zipD (Pt.encL (parts p)) (Pt.encL (parts q)))[i]? = some dd from hd2)
            subst ee
            obtain ⟨fp1, dp1⟩ := bp.parts p1 (List.mem_of_getElem? gp)
            obtain ⟨fq1, _⟩ := bq.parts q1 (List.mem_of_getElem? gq)
            rw [allZ_at gp gq] at hz
            repeat walk_at "pi"
            refine (bel_ok V d f (by omega) fp1 fq1).mono fun r h6 ⟨x6, er⟩ => ?_
            subst er
            cases hr : belQ d p1 q1 with
            | false =>
              repeat walk_at "pi"
              rw [hr] at hz
              exact ⟨(x0.trans x).trans x6, by simp [hz]⟩
            | true =>
              repeat walk_at "pi"
              rw [hr, Bool.true_and] at hz
              exact ⟨x.trans x6, ⟨_, _, rfl⟩, hz⟩
          · subst ee
            rw [allZ_end (by
              show _ ≤ (zipD (Pt.encL (parts p)) (Pt.encL (parts q))).length
              rw [zipD_len, pencL_len, pencL_len]; exact Nat.le_refl _)] at hz
            repeat walk_at "pi"
            exact ⟨x0.trans x, by simp [hz]⟩
end
--NEXT
end PI
/-! ## PiI -/
set_option Elab.async false
set_option linter.all false
set_option maxRecDepth 100000
set_option maxHeartbeats 4000000
set_option autoImplicit false
/-! PI: x in range(n), x in range(a, b), and not in. -/
namespace PI
open PySem L2
/-- x in range(..): f of the answer -/
def dRng (f : Bool → Bool) (a : Den) (r : ADen) : Den := fun e h => (a e h).bind fun x h1 => (r e h1).bind fun ds h2 => match x, ds with
  | .int i, [.int n] => .ok (.bl (f (decide (0 ≤ i ∧ i < n)))) h2
  | .int i, [.int l, .int n] => .ok (.bl (f (decide (l ≤ i ∧ i < n)))) h2
  | _, _ => .bad
section
variable {X : Cx} {G : Gx} {W : WX}
def rNewRng : List V → Hp → VK → Prop := fun vs H Q => (∃ n, vs = [V.int n] ∧ ∀ p, H p = none → Q (.ref p) (upd H p (.rng 0 n))) ∨ ∃ i j, vs = [V.int i, V.int j] ∧ ∀ p, H p = none → Q (.ref p) (upd H p (.rng i j))
theorem cr_newRng : CallR X (.type "range") rNewRng := by
  intro pins s σ H vs us Q I r h
  rcases h with ⟨n, rfl, q⟩ | ⟨i, j, rfl, q⟩
  · obtain ⟨u1, rfl, ri⟩ := vals1 r
    obtain ⟨t, rfl⟩ := ri
    refine call_range_1 ⟨.ref s.heap.objs.size, upd H s.heap.objs.size (.rng 0 n), I.laid (t' := s.toks + 1 + 1) (fun b o e => Heap.get?_push_of_some _ e) (Nat.le_refl _) ?_, rfl, q _ (I.hok.fresh (Nat.le_refl _))⟩
    exact ⟨s.toks, t, s.toks + 1, Heap.get?_push_size _ rfl⟩
  · exact cr_range2 pins s σ H _ us Q I r ⟨i, j, rfl, q⟩
def rRng (f : Bool → Bool) : R2 := fun x y H Q => ∃ i a lo hi, x = V.int i ∧ y = V.ref a ∧ H a = some (.rng lo hi) ∧ Q (.bl (f (decide (lo ≤ i ∧ i < hi)))) H
theorem op_inRng : OpR X (compareOp .In) (rRng id) := op_in_rng
theorem op_ninRng : OpR X (compareOp .NotIn) (rRng not) := by
  intro pins s σ H x y v u Q I rx ry h
  obtain ⟨i, a, lo, hi, rfl, rfl, ha, q⟩ := h
  obtain ⟨k, rfl⟩ := rx
  obtain rfl : u = Value.ref a := ry
  obtain ⟨t1, t2, t3, ho⟩ := I.hok a _ ha
  show wpAny _ _ (do return Value.bool (!(← contains (Value.ref a) (Value.int i k)))) _ _ s
  refine wpAny_bind (wpAny_contains_slot (T := "range") ⟨_, ho, rfl⟩ F.slot_range_contains (call_meets F.slot_range_contains ⟨_, ho, rfl⟩ F.entry_range_contains (F.args_range_contains_2 _ _) (q_contains a lo hi i t1 t2 t3 k)
    ⟨ho, wpAny_truthy_bool (wpAny_pure ⟨.bl _, H, I, rfl, ?_⟩)⟩))
  rw [place1]
  exact q
variable {pos p pos2 : Pos} {a e : Expr} {es : List Expr} {da : Den} {dr : ADen} {f : Bool → Bool}
theorem rng_gen {σ : L2.St} {H : Hp} {Q : VK} (q : tI G W (dRng f da dr) σ H Q) : tOp (rRng f) (tI G W da) (tCB rNewRng (tA G W dr)) σ H Q := by
  obtain ⟨ρ, h, e, hr, er, q⟩ := q
  refine tI.intro hr er (Post.bind q) fun ρ1 h1 H1 x v l1 hr1 r1 p1 => ?_
  refine tA.intro hr1 (er.mono l1) (Post.bind p1) fun ρ2 h2 H2 ds vs l2 hr2 r2 p2 => ?_
  have r1 := r1.mono l2
  split at p2
  · cases r1
    cases r2 with
    | cons a r3 =>
      cases r3
      cases a
      exact .inl ⟨_, rfl, fun p hp => ⟨_, p, _, _, rfl, rfl, upd_same, p2 ρ2 _ _ (Le.new hp) (hr2.beside hp) (.bl _)⟩⟩
  · cases r1
    cases r2 with
    | cons a r3 =>
      cases r3 with
      | cons b r4 =>
        cases r4
        cases a
        cases b
        exact .inr ⟨_, _, rfl, fun p hp => ⟨_, p, _, _, rfl, rfl, upd_same, p2 ρ2 _ _ (Le.new hp) (hr2.beside hp) (.bl _)⟩⟩
  · exact p2.elim
theorem ie_inRng (hm : X.mg "range" = none) (ha : PE X a (tI G W da)) (hb : PA X (e :: es) (tA G W dr)) (hg : Gl X "range" := by rfl) (he : starEach (e :: es) X.env = (false, eval e X.env) :: starEach es X.env := by rfl) (hpl : (backTo pos2 (starEach es X.env)).any (·.1) = false := by rfl) : PE X (.Compare a [.In] [.Call (.Name "range" p) (e :: es) [] pos2] pos) (tI G W (dRng id da dr)) :=
  pe_imp (pe_cmpR op_inRng ha (pe_callTy cr_newRng hg hm rfl hb (by decide) (by decide) he hpl) rfl) fun σ H Q q => rng_gen q
theorem ie_ninRng (hm : X.mg "range" = none) (ha : PE X a (tI G W da)) (hb : PA X (e :: es) (tA G W dr)) (hg : Gl X "range" := by rfl) (he : starEach (e :: es) X.env = (false, eval e X.env) :: starEach es X.env := by rfl) (hpl : (backTo pos2 (starEach es X.env)).any (·.1) = false := by rfl) : PE X (.Compare a [.NotIn] [.Call (.Name "range" p) (e :: es) [] pos2] pos) (tI G W (dRng not da dr)) :=
  pe_imp (pe_cmpR op_ninRng ha (pe_callTy cr_newRng hg hm rfl hb (by decide) (by decide) he hpl) rfl) fun σ H Q q => rng_gen q
theorem it_inRng (hm : X.mg "range" = none) (ha : PE X a (tI G W da)) (hb : PA X (e :: es) (tA G W dr)) (hg : Gl X "range" := by rfl) (he : starEach (e :: es) X.env = (false, eval e X.env) :: starEach es X.env := by rfl) (hpl : (backTo pos2 (starEach es X.env)).any (·.1) = false := by rfl) : PT X (.Compare a [.In] [.Call (.Name "range" p) (e :: es) [] pos2] pos) (tB' G W (tV (dRng id da dr))) :=
  pt_imp (pt_cmpR op_inRng ha (pe_callTy cr_newRng hg hm rfl hb (by decide) (by decide) he hpl) rfl) fun σ H Q q => rng_gen (tV_val q)
theorem it_ninRng (hm : X.mg "range" = none) (ha : PE X a (tI G W da)) (hb : PA X (e :: es) (tA G W dr)) (hg : Gl X "range" := by rfl) (he : starEach (e :: es) X.env = (false, eval e X.env) :: starEach es X.env := by rfl) (hpl : (backTo pos2 (starEach es X.env)).any (·.1) = false := by rfl) : PT X (.Compare a [.NotIn] [.Call (.Name "range" p) (e :: es) [] pos2] pos) (tB' G W (tV (dRng not da dr))) :=
  pt_imp (pt_cmpR op_ninRng ha (pe_callTy cr_newRng hg hm rfl hb (by decide) (by decide) he hpl) rfl) fun σ H Q q => rng_gen (tV_val q)
end
/-! the plain rule -/
section
variable {e : En} {h : Hh} {Q : D → Hh → Prop} {a : Den} {r : ADen} {f : Bool → Bool}
def rgK (x : D) (ds : List D) (k : Int → Int → Int → Prop) : Prop := ∃ i l n, x = .int i ∧ (ds = [.int n] ∧ l = 0 ∨ ds = [.int l, .int n]) ∧ k i l n
theorem Sat.rng (s : Sat (a e h) fun x h1 => Sat (r e h1) fun ds h2 => rgK x ds fun i l n => Q (.bl (f (decide (l ≤ i ∧ i < n)))) h2) : Sat (dRng f a r e h) Q := .bind (s.mono fun x h1 s => .bind (s.mono fun ds h2 ⟨i, l, n, ex, ed, q⟩ => by
  subst ex
  rcases ed with ⟨rfl, rfl⟩ | rfl
  · exact .ok q
  · exact .ok q))
instance : Red (Sat (dRng f a r e h) Q) (Sat (a e h) fun x h1 => Sat (r e h1) fun ds h2 => rgK x ds fun i l n => Q (.bl (f (decide (l ≤ i ∧ i < n)))) h2) := ⟨Sat.rng⟩
theorem rgK.one {i n : Int} {k : Int → Int → Int → Prop} (q : k i 0 n) : rgK (.int i) [.int n] k := ⟨i, 0, n, rfl, .inl ⟨rfl, rfl⟩, q⟩
instance {i n : Int} {k : Int → Int → Int → Prop} : Red (rgK (.int i) [.int n] k) (k i 0 n) := ⟨rgK.one⟩
theorem rgK.two {i l n : Int} {k : Int → Int → Int → Prop} (q : k i l n) : rgK (.int i) [.int l, .int n] k := ⟨i, l, n, rfl, .inr rfl, q⟩
instance {i l n : Int} {k : Int → Int → Int → Prop} : Red (rgK (.int i) [.int l, .int n] k) (k i l n) := ⟨rgK.two⟩
end
end PI
/-! ## Den_K41 -/
set_option linter.all false
set_option autoImplicit false
/-! denotations of shapewright_k41_form_of_decision_graphs; printed by gen.py -/
namespace K41
open PI
/-- 'var' -/
def s_var : List Nat := [118, 97, 114]
/-- 'as' -/
def s_as : List Nat := [97, 115]
/-- 'int' -/
def s_int : List Nat := [105, 110, 116]
/-- 'integer' -/
def s_integer : List Nat := [105, 110, 116, 101, 103, 101, 114]
/-- 'tuple' -/
def s_tuple : List Nat := [116, 117, 112, 108, 101]
/-- 'con' -/
def s_con : List Nat := [99, 111, 110]
/-- 'constructor' -/
def s_constructor : List Nat := [99, 111, 110, 115, 116, 114, 117, 99, 116, 111, 114]
/-- 'argument' -/
def s_argument : List Nat := [97, 114, 103, 117, 109, 101, 110, 116]
/-- 'packet' -/
def s_packet : List Nat := [112, 97, 99, 107, 101, 116]
/-- 'exception' -/
def s_exception : List Nat := [101, 120, 99, 101, 112, 116, 105, 111, 110]
/-- 'leaf' -/
def s_leaf : List Nat := [108, 101, 97, 102]
/-- 'fail' -/
def s_fail : List Nat := [102, 97, 105, 108]
/-- 'm' -/
def s_m : List Nat := [109]
/-- 's' -/
def s_s : List Nat := [115]
/-- 'field' -/
def s_field : List Nat := [102, 105, 101, 108, 100]
/-- 'q' -/
def s_q : List Nat := [113]
/-- 'p' -/
def s_p : List Nat := [112]
/-- 'ABCDEFGHIJKL' -/
def s_ABCDEFGHIJKL : List Nat := [65, 66, 67, 68, 69, 70, 71, 72, 73, 74, 75, 76]
/-- 'any' -/
def s_any : List Nat := [97, 110, 121]
/-- 'v' -/
def s_v : List Nat := [118]
/-- 'E' -/
def s_E : List Nat := [69]
/-- walk_pattern(pattern, place, tests, bindings): 0 pattern 1 place 2 tests 3 bindings 4 tag 5 at 6 part -/
def b_walk_pattern (c : Cal) : SDen :=
 (sSeq (sAsg (dBin oIx (dVar 0) (dC (.int 0))) (gNm 4))
 (sIf (tV (dBin cEq (dVar 4) (dC (.str s_var))))
 (sExpr (dMeth mAppend (dVar 3) (aCons (dTup (aCons (dBin oIx (dVar 0) (dC (.int 1))) (aCons (dVar 1) aNil))) aNil)))
 (sIf (tV (dBin cEq (dVar 4) (dC (.str s_as))))
 (sSeq (sExpr (dMeth mAppend (dVar 3) (aCons (dTup (aCons (dBin oIx (dVar 0) (dC (.int 1))) (aCons (dVar 1) aNil))) aNil)))
 (sExpr (dCallN c 0 4 (aCons (dBin oIx (dVar 0) (dC (.int 2))) (aCons (dVar 1) (aCons (dVar 2) (aCons (dVar 3) aNil)))))))
 (sIf (tV (dBin cEq (dVar 4) (dC (.str s_int))))
 (sExpr (dMeth mAppend (dVar 2) (aCons (dTup (aCons (dC (.str s_integer)) (aCons (dVar 1) (aCons (dBin oIx (dVar 0) (dC (.int 1))) aNil)))) aNil)))
 (sIf (tV (dBin cEq (dVar 4) (dC (.str s_tuple))))
 (sFor (wEnum (dBin oIx (dVar 0) (dC (.int 1)))) (gTp 2 (gsCons (gNm 5) (gsCons (gNm 6) gsNil)))
 (sExpr (dCallN c 0 4 (aCons (dVar 6) (aCons (dBin oAdd (dVar 1) (dTup (aCons (dVar 5) aNil))) (aCons (dVar 2) (aCons (dVar 3) aNil)))))))
 (sIf (tV (dBin cEq (dVar 4) (dC (.str s_con))))
 (sSeq (sExpr (dMeth mAppend (dVar 2) (aCons (dTup (aCons (dC (.str s_constructor)) (aCons (dVar 1) (aCons (dBin oIx (dVar 0) (dC (.int 2))) aNil)))) aNil)))
 (sIf (tV (dUn cNotN (dBin oIx (dVar 0) (dC (.int 3)))))
 (sExpr (dCallN c 0 4 (aCons (dBin oIx (dVar 0) (dC (.int 3))) (aCons (dBin oAdd (dVar 1) (dTup (aCons (dC (.str s_argument)) aNil))) (aCons (dVar 2) (aCons (dVar 3) aNil))))))
 sNil))
 (sIf (tV (dBin cEq (dVar 4) (dC (.str s_packet))))
 (sSeq (sExpr (dMeth mAppend (dVar 2) (aCons (dTup (aCons (dC (.str s_exception)) (aCons (dVar 1) (aCons (dBin oIx (dVar 0) (dC (.int 1))) aNil)))) aNil)))
 (sIf (tV (dUn cNotN (dBin oIx (dVar 0) (dC (.int 2)))))
 (sExpr (dCallN c 0 4 (aCons (dBin oIx (dVar 0) (dC (.int 2))) (aCons (dBin oAdd (dVar 1) (dTup (aCons (dC (.str s_argument)) aNil))) (aCons (dVar 2) (aCons (dVar 3) aNil))))))
 sNil))
 sNil)))))))
/-- decision_graph(rows): 0 rows 1 nodes 2 k 3 pattern 4 tests 5 bindings 6 after 7 kind 8 place 9 key -/
def b_decision_graph (c : Cal) : SDen :=
 (sSeq (sAsg (dLst aNil) (gNm 1))
 (sSeq (sFor (wEnum (dVar 0)) (gTp 2 (gsCons (gNm 2) (gsCons (gNm 3) gsNil)))
 (sSeq (sAsg (dLst aNil) (gNm 4))
 (sSeq (sAsg (dLst aNil) (gNm 5))
 (sSeq (sExpr (dCallN c 0 4 (aCons (dVar 3) (aCons (dTup aNil) (aCons (dVar 4) (aCons (dVar 5) aNil))))))
 (sSeq (sAsg (dBin oAdd (dBin oAdd (dArgs bLen (aCons (dVar 1) aNil)) (dArgs bLen (aCons (dVar 4) aNil))) (dC (.int 1))) (gNm 6))
 (sSeq (sFor (wSeq (dVar 4)) (gTp 3 (gsCons (gNm 7) (gsCons (gNm 8) (gsCons (gNm 9) gsNil))))
 (sExpr (dMeth mAppend (dVar 1) (aCons (dTup (aCons (dVar 7) (aCons (dVar 8) (aCons (dVar 9) (aCons (dBin oAdd (dArgs bLen (aCons (dVar 1) aNil)) (dC (.int 1))) (aCons (dVar 6) aNil)))))) aNil))))
 (sSeq (sExpr (dMeth mAppend (dVar 1) (aCons (dTup (aCons (dC (.str s_leaf)) (aCons (dVar 2) (aCons (dArgs bTuple (aCons (dVar 5) aNil)) aNil)))) aNil)))
 (sIf (PI.tNot (tT (dVar 4)))
 (sRet (dArgs bTuple (aCons (dVar 1) aNil)))
 sNil))))))))
 (sSeq (sExpr (dMeth mAppend (dVar 1) (aCons (dTup (aCons (dC (.str s_fail)) aNil)) aNil)))
 (sRet (dArgs bTuple (aCons (dVar 1) aNil))))))
/-- _law_mix(number): 0 number -/
def b__law_mix (c : Cal) : SDen :=
 (sSeq (sAsg (dBin oMod (dArgs bInt (aCons (dBin oAdd (dBin oMul (dVar 0) (dC (.int 6364136223846793005))) (dC (.int 1442695040888963407))) aNil)) (dC (.int 18446744073709551616))) (gNm 0))
 (sRet (dBin oMod (dArgs bInt (aCons (dBin oAdd (dBin oDiv (dBin oMul (dVar 0) (dVar 0)) (dC (.int 4294967296))) (dBin oMul (dVar 0) (dC (.int 69621)))) aNil)) (dC (.int 18446744073709551557)))))
/-- _law_tape(script, budget): 0 script 1 budget -/
def b__law_tape (c : Cal) : SDen :=
 (sRet (dLst (aCons (dArgs bList (aCons (dVar 0) aNil)) (aCons (dC (.int 0)) (aCons (dC (.int 0)) (aCons (dC (.int 1)) (aCons (dVar 1) aNil)))))))
/-- _law_take(tape, many): 0 tape 1 many 2 cell 3 digit -/
def b__law_take (c : Cal) : SDen :=
 (sSeq (sIf (tV (dBin cLt (dBin oIx (dVar 0) (dC (.int 2))) (dVar 1)))
 (sIf (tV (dBin cLt (dBin oIx (dVar 0) (dC (.int 1))) (dArgs bLen (aCons (dBin oIx (dVar 0) (dC (.int 0))) aNil))))
 (sSeq (sAsg (dBin oIx (dBin oIx (dVar 0) (dC (.int 0))) (dBin oIx (dVar 0) (dC (.int 1)))) (gNm 2))
 (sSeq (sAsg (dIf (tV (dBin cGe (dVar 2) (dC (.int 0)))) (dBin oMul (dC (.int 2)) (dVar 2)) (dBin oSub (dBin oMul (dUn oNeg (dC (.int 2))) (dVar 2)) (dC (.int 1)))) (gNm 2))
 (sSeq (sAsg (dBin oAdd (dBin oIx (dVar 0) (dC (.int 1))) (dC (.int 1))) (gSb (dVar 0) (dC (.int 1))))
 (sSeq (sAsg (dCallN c 2 1 (aCons (dBin oAdd (dBin oIx (dVar 0) (dC (.int 3))) (dVar 2)) aNil)) (gSb (dVar 0) (dC (.int 3))))
 (sAsg (dIf (tV (dBin cGe (dVar 2) (dBin oPow (dC (.int 10)) (dC (.int 18))))) (dVar 2) (dCallN c 2 1 (aCons (dCallN c 2 1 (aCons (dVar 2) aNil)) aNil))) (gSb (dVar 0) (dC (.int 2))))))))
 (sSeq (sAsg (dCallN c 2 1 (aCons (dBin oAdd (dBin oIx (dVar 0) (dC (.int 3))) (dC (.int 1))) aNil)) (gSb (dVar 0) (dC (.int 3))))
 (sAsg (dBin oIx (dVar 0) (dC (.int 3))) (gSb (dVar 0) (dC (.int 2))))))
 sNil)
 (sSeq (sAsg (dBin oMod (dArgs bInt (aCons (dBin oIx (dVar 0) (dC (.int 2))) aNil)) (dVar 1)) (gNm 3))
 (sSeq (sAsg (dBin oDiv (dBin oIx (dVar 0) (dC (.int 2))) (dVar 1)) (gSb (dVar 0) (dC (.int 2))))
 (sRet (dVar 3)))))
/-- _law_paths():  -/
def b__law_paths (c : Cal) : SDen :=
 (sRet (dLst (aCons (dTup (aCons (dC (.str s_var)) (aCons (dC (.str s_p)) aNil))) (aCons (dTup (aCons (dC (.str s_field)) (aCons (dC (.str s_q)) (aCons (dTup (aCons (dC (.str s_var)) (aCons (dC (.str s_m)) aNil))) aNil)))) (aCons (dTup (aCons (dC (.str s_field)) (aCons (dC (.str s_q)) (aCons (dTup (aCons (dC (.str s_field)) (aCons (dC (.str s_s)) (aCons (dTup (aCons (dC (.str s_var)) (aCons (dC (.str s_m)) aNil))) aNil)))) aNil)))) aNil)))))
/-- _law_integer(tape, many): 0 tape 1 many -/
def b__law_integer (c : Cal) : SDen :=
 (sSeq (sIf (tV (dBin cEq (dCallN c 4 2 (aCons (dVar 0) (aCons (dC (.int 4)) aNil))) (dC (.int 0))))
 (sRet (dBin oIx (dLst (aCons (dUn oNeg (dC (.int 2147483648))) (aCons (dC (.int 2147483647)) (aCons (dC (.int 256)) (aCons (dC (.int 65536)) (aCons (dC (.int 128)) (aCons (dUn oNeg (dC (.int 128))) (aCons (dC (.int 0)) (aCons (dUn oNeg (dC (.int 65536))) aNil))))))))) (dCallN c 4 2 (aCons (dVar 0) (aCons (dC (.int 8)) aNil)))))
 sNil)
 (sRet (dBin oSub (dCallN c 4 2 (aCons (dVar 0) (aCons (dVar 1) aNil))) (dC (.int 1)))))
/-- _law_kind(tape, deep): 0 tape 1 deep 2 draw 3 many 4 k 5 rows 6 path 7 inner 8 family 9 inners 10 has -/
def b__law_kind (c : Cal) : SDen :=
 (sSeq (sAsg (dIf (tV (dBin cGt (dVar 1) (dC (.int 0)))) (dCallN c 4 2 (aCons (dVar 0) (aCons (dC (.int 5)) aNil))) (dC (.int 0))) (gNm 2))
 (sSeq (sIf (tV (dBin cEq (dVar 2) (dC (.int 0))))
 (sRet (dTup (aCons (dC (.str s_int)) aNil)))
 sNil)
 (sSeq (sIf (tV (dBin cEq (dVar 2) (dC (.int 1))))
 (sSeq (sAsg (dBin oIx (dLst (aCons (dC (.int 0)) (aCons (dC (.int 2)) (aCons (dC (.int 2)) (aCons (dC (.int 3)) aNil))))) (dCallN c 4 2 (aCons (dVar 0) (aCons (dC (.int 4)) aNil)))) (gNm 3))
 (sSeq (sIf (PI.tAnd (tV (dBin cEq (dVar 1) (dC (.int 1)))) (tV (dBin cEq (dCallN c 4 2 (aCons (dVar 0) (aCons (dC (.int 3)) aNil))) (dC (.int 0)))))
 (sAsg (dBin oAdd (dC (.int 4)) (dCallN c 4 2 (aCons (dVar 0) (aCons (dC (.int 3)) aNil)))) (gNm 3))
 sNil)
 (sRet (dTup (aCons (dC (.str s_tuple)) (aCons (dArgs fTup (aComp (wRng1 (dVar 3)) [4] (gNm 4) PI.tYes (dCallN c 7 2 (aCons (dVar 0) (aCons (dBin oSub (dVar 1) (dC (.int 1))) aNil))))) aNil))))))
 sNil)
 (sSeq (sIf (tV (dBin cEq (dVar 2) (dC (.int 2))))
 (sSeq (sAsg (dLst aNil) (gNm 5))
 (sSeq (sFor (wSeq (dCall0 c 5)) (gNm 6)
 (sSeq (sAsg (dC .non) (gNm 7))
 (sSeq (sIf (tV (dBin cEq (dCallN c 4 2 (aCons (dVar 0) (aCons (dC (.int 2)) aNil))) (dC (.int 0))))
 (sAsg (dCallN c 7 2 (aCons (dVar 0) (aCons (dBin oSub (dVar 1) (dC (.int 1))) aNil))) (gNm 7))
 sNil)
 (sExpr (dMeth mAppend (dVar 5) (aCons (dTup (aCons (dVar 6) (aCons (dVar 7) aNil))) aNil))))))
 (sRet (dTup (aCons (dC (.str s_packet)) (aCons (dArgs bTuple (aCons (dVar 5) aNil)) aNil))))))
 sNil)
 (sSeq (sAsg (dLst aNil) (gNm 8))
 (sSeq (sAsg (dLst aNil) (gNm 9))
 (sSeq (sAsg (dBin oAdd (dC (.int 1)) (dCallN c 4 2 (aCons (dVar 0) (aCons (dC (.int 4)) aNil)))) (gNm 3))
 (sSeq (sIf (tV (dBin cEq (dCallN c 4 2 (aCons (dVar 0) (aCons (dC (.int 4)) aNil))) (dC (.int 0))))
 (sAsg (dBin oAdd (dC (.int 1)) (dCallN c 4 2 (aCons (dVar 0) (aCons (dC (.int 12)) aNil)))) (gNm 3))
 sNil)
 (sSeq (sFor (wRng1 (dVar 3)) (gNm 4)
 (sSeq (sAsg (dBin cEq (dCallN c 4 2 (aCons (dVar 0) (aCons (dC (.int 2)) aNil))) (dC (.int 0))) (gNm 10))
 (sSeq (sExpr (dMeth mAppend (dVar 8) (aCons (dTup (aCons (dBin oIx (dC (.str s_ABCDEFGHIJKL)) (dVar 4)) (aCons (dVar 10) aNil))) aNil)))
 (sExpr (dMeth mAppend (dVar 9) (aCons (dIf (tT (dVar 10)) (dCallN c 7 2 (aCons (dVar 0) (aCons (dBin oSub (dVar 1) (dC (.int 1))) aNil))) (dC .non)) aNil))))))
 (sRet (dTup (aCons (dC (.str s_con)) (aCons (dArgs bTuple (aCons (dVar 8) aNil)) (aCons (dArgs bTuple (aCons (dVar 9) aNil)) aNil))))))))))))))
/-- _law_pattern(tape, kind, names): 0 tape 1 kind 2 names 3 draw 4 name 5 path 6 inner 7 at 8 part -/
def b__law_pattern (c : Cal) : SDen :=
 (sSeq (sAsg (dCallN c 4 2 (aCons (dVar 0) (aCons (dC (.int 8)) aNil))) (gNm 3))
 (sSeq (sIf (tV (dBin cEq (dVar 3) (dC (.int 0))))
 (sRet (dTup (aCons (dC (.str s_any)) aNil)))
 sNil)
 (sSeq (sIf (tV (dBin cEq (dVar 3) (dC (.int 1))))
 (sSeq (sExpr (dMeth mAppend (dVar 2) (aCons (dBin oAdd (dC (.str s_v)) (dArgs bStr (aCons (dArgs bLen (aCons (dVar 2) aNil)) aNil))) aNil)))
 (sRet (dTup (aCons (dC (.str s_var)) (aCons (dBin oIx (dVar 2) (dUn oNeg (dC (.int 1)))) aNil)))))
 sNil)
 (sSeq (sIf (PI.tAnd (tV (dBin cEq (dVar 3) (dC (.int 2)))) (tV (dBin cLt (dArgs bLen (aCons (dVar 2) aNil)) (dC (.int 6)))))
 (sSeq (sExpr (dMeth mAppend (dVar 2) (aCons (dBin oAdd (dC (.str s_v)) (dArgs bStr (aCons (dArgs bLen (aCons (dVar 2) aNil)) aNil))) aNil)))
 (sSeq (sAsg (dBin oIx (dVar 2) (dUn oNeg (dC (.int 1)))) (gNm 4))
 (sRet (dTup (aCons (dC (.str s_as)) (aCons (dVar 4) (aCons (dCallN c 8 3 (aCons (dVar 0) (aCons (dVar 1) (aCons (dVar 2) aNil)))) aNil)))))))
 sNil)
 (sSeq (sIf (tV (dBin cEq (dBin oIx (dVar 1) (dC (.int 0))) (dC (.str s_int))))
 (sRet (dTup (aCons (dC (.str s_int)) (aCons (dCallN c 6 2 (aCons (dVar 0) (aCons (dC (.int 3)) aNil))) aNil))))
 sNil)
 (sSeq (sIf (tV (dBin cEq (dBin oIx (dVar 1) (dC (.int 0))) (dC (.str s_tuple))))
 (sRet (dTup (aCons (dC (.str s_tuple)) (aCons (dArgs fTup (aComp (wSeq (dBin oIx (dVar 1) (dC (.int 1)))) [8] (gNm 8) PI.tYes (dCallN c 8 3 (aCons (dVar 0) (aCons (dVar 8) (aCons (dVar 2) aNil)))))) aNil))))
 sNil)
 (sSeq (sIf (tV (dBin cEq (dBin oIx (dVar 1) (dC (.int 0))) (dC (.str s_packet))))
 (sSeq (sAsg (dBin oIx (dBin oIx (dVar 1) (dC (.int 1))) (dCallN c 4 2 (aCons (dVar 0) (aCons (dC (.int 3)) aNil)))) (gTp 2 (gsCons (gNm 5) (gsCons (gNm 6) gsNil))))
 (sRet (dTup (aCons (dC (.str s_packet)) (aCons (dVar 5) (aCons (dIf (tV (dUn cIsN (dVar 6))) (dC .non) (dCallN c 8 3 (aCons (dVar 0) (aCons (dVar 6) (aCons (dVar 2) aNil))))) aNil))))))
 sNil)
 (sSeq (sAsg (dCallN c 4 2 (aCons (dVar 0) (aCons (dArgs bLen (aCons (dBin oIx (dVar 1) (dC (.int 1))) aNil)) aNil))) (gNm 7))
 (sSeq (sAsg (dBin oIx (dBin oIx (dVar 1) (dC (.int 2))) (dVar 7)) (gNm 6))
 (sRet (dTup (aCons (dC (.str s_con)) (aCons (dBin oIx (dVar 1) (dC (.int 1))) (aCons (dVar 7) (aCons (dIf (tV (dUn cIsN (dVar 6))) (dC .non) (dCallN c 8 3 (aCons (dVar 0) (aCons (dVar 6) (aCons (dVar 2) aNil))))) aNil)))))))))))))))
/-- _law_value(tape, kind, numbers): 0 tape 1 kind 2 numbers 3 draw 4 inner 5 at 6 part -/
def b__law_value (c : Cal) : SDen :=
 (sSeq (sIf (tV (dBin cEq (dBin oIx (dVar 1) (dC (.int 0))) (dC (.str s_int))))
 (sRet (dTup (aCons (dC (.str s_int)) (aCons (dCallN c 6 2 (aCons (dVar 0) (aCons (dC (.int 4)) aNil))) aNil))))
 sNil)
 (sSeq (sIf (tV (dBin cEq (dBin oIx (dVar 1) (dC (.int 0))) (dC (.str s_tuple))))
 (sRet (dTup (aCons (dC (.str s_tuple)) (aCons (dArgs fTup (aComp (wSeq (dBin oIx (dVar 1) (dC (.int 1)))) [6] (gNm 6) PI.tYes (dCallN c 9 3 (aCons (dVar 0) (aCons (dVar 6) (aCons (dVar 2) aNil)))))) aNil))))
 sNil)
 (sSeq (sIf (tV (dBin cEq (dBin oIx (dVar 1) (dC (.int 0))) (dC (.str s_packet))))
 (sSeq (sAsg (dCallN c 4 2 (aCons (dVar 0) (aCons (dC (.int 4)) aNil))) (gNm 3))
 (sSeq (sIf (tV (dBin cEq (dVar 3) (dC (.int 3))))
 (sRet (dTup (aCons (dC (.str s_packet)) (aCons (dC (.int 77)) (aCons (dC (.str s_E)) (aCons (dC .non) aNil))))))
 sNil)
 (sSeq (sAsg (dBin oIx (dBin oIx (dBin oIx (dVar 1) (dC (.int 1))) (dVar 3)) (dC (.int 1))) (gNm 4))
 (sRet (dTup (aCons (dC (.str s_packet)) (aCons (dBin oIx (dVar 2) (dVar 3)) (aCons (dC (.str s_E)) (aCons (dIf (tV (dUn cIsN (dVar 4))) (dC .non) (dCallN c 9 3 (aCons (dVar 0) (aCons (dVar 4) (aCons (dVar 2) aNil))))) aNil)))))))))
 sNil)
 (sSeq (sAsg (dCallN c 4 2 (aCons (dVar 0) (aCons (dArgs bLen (aCons (dBin oIx (dVar 1) (dC (.int 1))) aNil)) aNil))) (gNm 5))
 (sSeq (sAsg (dBin oIx (dBin oIx (dVar 1) (dC (.int 2))) (dVar 5)) (gNm 4))
 (sRet (dTup (aCons (dC (.str s_con)) (aCons (dVar 5) (aCons (dBin oIx (dBin oIx (dBin oIx (dVar 1) (dC (.int 1))) (dVar 5)) (dC (.int 0))) (aCons (dIf (tV (dUn cIsN (dVar 4))) (dC .non) (dCallN c 9 3 (aCons (dVar 0) (aCons (dVar 4) (aCons (dVar 2) aNil))))) aNil)))))))))))
/-- _law_number_of(path, numbers): 0 path 1 numbers -/
def b__law_number_of (c : Cal) : SDen :=
 (sRet (dBin oIx (dVar 1) (dMeth mIndex (dCall0 c 5) (aCons (dVar 0) aNil))))
/-- _law_fit(pattern, value, numbers, found): 0 pattern 1 value 2 numbers 3 found 4 k 5 same 6 inner -/
def b__law_fit (c : Cal) : SDen :=
 (sSeq (sIf (tV (dBin cEq (dBin oIx (dVar 0) (dC (.int 0))) (dC (.str s_any))))
 (sRet (dC (.bl true)))
 sNil)
 (sSeq (sIf (tV (dBin cEq (dBin oIx (dVar 0) (dC (.int 0))) (dC (.str s_var))))
 (sSeq (sExpr (dMeth mAppend (dVar 3) (aCons (dTup (aCons (dBin oIx (dVar 0) (dC (.int 1))) (aCons (dVar 1) aNil))) aNil)))
 (sRet (dC (.bl true))))
 sNil)
 (sSeq (sIf (tV (dBin cEq (dBin oIx (dVar 0) (dC (.int 0))) (dC (.str s_as))))
 (sSeq (sExpr (dMeth mAppend (dVar 3) (aCons (dTup (aCons (dBin oIx (dVar 0) (dC (.int 1))) (aCons (dVar 1) aNil))) aNil)))
 (sRet (dCallN c 11 4 (aCons (dBin oIx (dVar 0) (dC (.int 2))) (aCons (dVar 1) (aCons (dVar 2) (aCons (dVar 3) aNil)))))))
 sNil)
 (sSeq (sIf (tV (dBin cEq (dBin oIx (dVar 0) (dC (.int 0))) (dC (.str s_int))))
 (sRet (dBin cEq (dBin oIx (dVar 1) (dC (.int 1))) (dBin oIx (dVar 0) (dC (.int 1)))))
 sNil)
 (sSeq (sIf (tV (dBin cEq (dBin oIx (dVar 0) (dC (.int 0))) (dC (.str s_tuple))))
 (sSeq (sFor (wRng1 (dArgs bLen (aCons (dBin oIx (dVar 0) (dC (.int 1))) aNil))) (gNm 4)
 (sIf (PI.tNot (tT (dCallN c 11 4 (aCons (dBin oIx (dBin oIx (dVar 0) (dC (.int 1))) (dVar 4)) (aCons (dBin oIx (dBin oIx (dVar 1) (dC (.int 1))) (dVar 4)) (aCons (dVar 2) (aCons (dVar 3) aNil)))))))
 (sRet (dC (.bl false)))
 sNil))
 (sRet (dC (.bl true))))
 sNil)
 (sSeq (sIf (tV (dBin cEq (dBin oIx (dVar 0) (dC (.int 0))) (dC (.str s_con))))
 (sSeq (sAsg (dBin cEq (dBin oIx (dVar 1) (dC (.int 1))) (dBin oIx (dVar 0) (dC (.int 2)))) (gNm 5))
 (sAsg (dBin oIx (dVar 0) (dC (.int 3))) (gNm 6)))
 (sSeq (sAsg (dBin cEq (dBin oIx (dVar 1) (dC (.int 1))) (dCallN c 10 2 (aCons (dBin oIx (dVar 0) (dC (.int 1))) (aCons (dVar 2) aNil)))) (gNm 5))
 (sAsg (dBin oIx (dVar 0) (dC (.int 2))) (gNm 6))))
 (sSeq (sIf (PI.tOr (PI.tNot (tT (dVar 5))) (tV (dBin cNe (dUn cIsN (dVar 6)) (dUn cIsN (dBin oIx (dVar 1) (dC (.int 3)))))))
 (sRet (dC (.bl false)))
 sNil)
 (sRet (dOr (dUn cIsN (dVar 6)) (dCallN c 11 4 (aCons (dVar 6) (aCons (dBin oIx (dVar 1) (dC (.int 3))) (aCons (dVar 2) (aCons (dVar 3) aNil))))))))))))))
/-- _law_pairs(numbers): 0 numbers 1 paths 2 k -/
def b__law_pairs (c : Cal) : SDen :=
 (sSeq (sAsg (dCall0 c 5) (gNm 1))
 (sRet (dLc (aComp (wRng1 (dC (.int 3))) [2] (gNm 2) PI.tYes (dTup (aCons (dBin oIx (dVar 1) (dVar 2)) (aCons (dBin oIx (dVar 0) (dVar 2)) aNil)))))))
/-- _law_is_place(place): 0 place 1 step -/
def b__law_is_place (c : Cal) : SDen :=
 (sSeq (sIf (PI.tNot (tT (dIsA .tuple (dVar 0))))
 (sRet (dC (.bl false)))
 sNil)
 (sRet (dArgs fAll (aComp (wSeq (dVar 0)) [1] (gNm 1) PI.tYes (dOr (dBin cEq (dVar 1) (dC (.str s_argument))) (dAnd (dIsA .int (dVar 1)) (dNot (dIsA .bool (dVar 1)))))))))
/-- _law_is_leaf(node, rows): 0 node 1 rows 2 pair -/
def b__law_is_leaf (c : Cal) : SDen :=
 (sSeq (sIf (PI.tOr (tV (dBin cNe (dArgs bLen (aCons (dVar 0) aNil)) (dC (.int 3)))) (PI.tOr (tV (dRng not (dBin oIx (dVar 0) (dC (.int 1))) (aCons (dArgs bLen (aCons (dVar 1) aNil)) aNil))) (PI.tNot (tT (dIsA .tuple (dBin oIx (dVar 0) (dC (.int 2))))))))
 (sRet (dC (.bl false)))
 sNil)
 (sSeq (sFor (wSeq (dBin oIx (dVar 0) (dC (.int 2)))) (gNm 2)
 (sIf (PI.tOr (PI.tNot (tT (dIsA .tuple (dVar 2)))) (PI.tOr (tV (dBin cNe (dArgs bLen (aCons (dVar 2) aNil)) (dC (.int 2)))) (PI.tOr (PI.tNot (tT (dIsA .str (dBin oIx (dVar 2) (dC (.int 0)))))) (PI.tNot (tT (dCallN c 13 1 (aCons (dBin oIx (dVar 2) (dC (.int 1))) aNil)))))))
 (sRet (dC (.bl false)))
 sNil))
 (sRet (dC (.bl true)))))
/-- _law_is_test(node, at, many): 0 node 1 at 2 many -/
def b__law_is_test (c : Cal) : SDen :=
 (sSeq (sIf (PI.tOr (tV (dBin cNe (dArgs bLen (aCons (dVar 0) aNil)) (dC (.int 5)))) (PI.tOr (tV (dRng not (dBin oIx (dVar 0) (dC (.int 3))) (aCons (dBin oAdd (dVar 1) (dC (.int 1))) (aCons (dVar 2) aNil)))) (tV (dRng not (dBin oIx (dVar 0) (dC (.int 4))) (aCons (dBin oAdd (dVar 1) (dC (.int 1))) (aCons (dVar 2) aNil))))))
 (sRet (dC (.bl false)))
 sNil)
 (sSeq (sIf (tV (dBin cEq (dBin oIx (dVar 0) (dC (.int 0))) (dC (.str s_exception))))
 (sRet (dAnd (dBin cIn (dBin oIx (dVar 0) (dC (.int 2))) (dCall0 c 5)) (dCallN c 13 1 (aCons (dBin oIx (dVar 0) (dC (.int 1))) aNil))))
 sNil)
 (sRet (dAnd (dIsA .int (dBin oIx (dVar 0) (dC (.int 2)))) (dAnd (dNot (dIsA .bool (dBin oIx (dVar 0) (dC (.int 2))))) (dCallN c 13 1 (aCons (dBin oIx (dVar 0) (dC (.int 1))) aNil)))))))
/-- _law_first(rows, value, numbers): 0 rows 1 value 2 numbers 3 k 4 found -/
def b__law_first (c : Cal) : SDen :=
 (sSeq (sFor (wRng1 (dArgs bLen (aCons (dVar 0) aNil))) (gNm 3)
 (sSeq (sAsg (dLst aNil) (gNm 4))
 (sIf (tT (dCallN c 11 4 (aCons (dBin oIx (dVar 0) (dVar 3)) (aCons (dVar 1) (aCons (dVar 2) (aCons (dVar 4) aNil))))))
 (sRet (dTup (aCons (dVar 3) (aCons (dVar 4) aNil))))
 sNil)))
 (sRet (dC .non)))
/-- _law_graph_form(graph, rows): 0 graph 1 rows 2 tests 3 reached 4 at 5 node 6 row -/
def b__law_graph_form (c : Cal) : SDen :=
 (sSeq (sAsg (dArgs fSum (aComp (wSeq (dVar 1)) [6] (gNm 6) PI.tYes (dCallN c 18 1 (aCons (dVar 6) aNil)))) (gNm 2))
 (sSeq (sIf (PI.tOr (PI.tNot (tT (dIsA .tuple (dVar 0)))) (PI.tNot (tV (dChain cLt cLe (dC (.int 0)) (dArgs bLen (aCons (dVar 0) aNil)) (dBin oAdd (dBin oAdd (dVar 2) (dArgs bLen (aCons (dVar 1) aNil))) (dC (.int 1)))))))
 (sRet (dC (.bl false)))
 sNil)
 (sSeq (sAsg (dLst (aCons (dC (.int 0)) aNil)) (gNm 3))
 (sSeq (sFor (wRng1 (dArgs bLen (aCons (dVar 0) aNil))) (gNm 4)
 (sSeq (sAsg (dBin oIx (dVar 0) (dVar 4)) (gNm 5))
 (sSeq (sIf (PI.tOr (tV (dBin cNin (dVar 4) (dVar 3))) (PI.tOr (PI.tNot (tT (dIsA .tuple (dVar 5)))) (tV (dBin cEq (dArgs bLen (aCons (dVar 5) aNil)) (dC (.int 0))))))
 (sRet (dC (.bl false)))
 sNil)
 (sIf (tV (dBin cEq (dBin oIx (dVar 5) (dC (.int 0))) (dC (.str s_leaf))))
 (sIf (PI.tNot (tT (dCallN c 14 2 (aCons (dVar 5) (aCons (dVar 1) aNil)))))
 (sRet (dC (.bl false)))
 sNil)
 (sIf (tV (dBin cIn (dBin oIx (dVar 5) (dC (.int 0))) (dTup (aCons (dC (.str s_constructor)) (aCons (dC (.str s_integer)) (aCons (dC (.str s_exception)) aNil))))))
 (sSeq (sIf (PI.tNot (tT (dCallN c 15 3 (aCons (dVar 5) (aCons (dVar 4) (aCons (dArgs bLen (aCons (dVar 0) aNil)) aNil))))))
 (sRet (dC (.bl false)))
 sNil)
 (sSeq (sExpr (dMeth mAppend (dVar 3) (aCons (dBin oIx (dVar 5) (dC (.int 3))) aNil)))
 (sExpr (dMeth mAppend (dVar 3) (aCons (dBin oIx (dVar 5) (dC (.int 4))) aNil)))))
 (sIf (tV (dBin cNe (dVar 5) (dTup (aCons (dC (.str s_fail)) aNil))))
 (sRet (dC (.bl false)))
 sNil))))))
 (sRet (dC (.bl true)))))))
/-- _law_tests(pattern): 0 pattern 1 todo 2 count 3 part -/
def b__law_tests (c : Cal) : SDen :=
 (sSeq (sAsg (dLst (aCons (dVar 0) aNil)) (gNm 1))
 (sSeq (sAsg (dC (.int 0)) (gNm 2))
 (sSeq (sWhile (tV (dBin cGt (dArgs bLen (aCons (dVar 1) aNil)) (dC (.int 0))))
 (sSeq (sAsg (dMeth mPop (dVar 1) aNil) (gNm 3))
 (sSeq (sIf (tV (dBin cEq (dBin oIx (dVar 3) (dC (.int 0))) (dC (.str s_as))))
 (sExpr (dMeth mAppend (dVar 1) (aCons (dBin oIx (dVar 3) (dC (.int 2))) aNil)))
 sNil)
 (sSeq (sIf (tV (dBin cEq (dBin oIx (dVar 3) (dC (.int 0))) (dC (.str s_tuple))))
 (sExpr (dMeth mExtend (dVar 1) (aCons (dArgs bList (aCons (dBin oIx (dVar 3) (dC (.int 1))) aNil)) aNil)))
 sNil)
 (sSeq (sIf (tV (dBin cEq (dBin oIx (dVar 3) (dC (.int 0))) (dC (.str s_con))))
 (sSeq (sAug 2 oIadd (dC (.int 1)))
 (sIf (tV (dUn cNotN (dBin oIx (dVar 3) (dC (.int 3)))))
 (sExpr (dMeth mAppend (dVar 1) (aCons (dBin oIx (dVar 3) (dC (.int 3))) aNil)))
 sNil))
 sNil)
 (sSeq (sIf (tV (dBin cEq (dBin oIx (dVar 3) (dC (.int 0))) (dC (.str s_packet))))
 (sSeq (sAug 2 oIadd (dC (.int 1)))
 (sIf (tV (dUn cNotN (dBin oIx (dVar 3) (dC (.int 2)))))
 (sExpr (dMeth mAppend (dVar 1) (aCons (dBin oIx (dVar 3) (dC (.int 2))) aNil)))
 sNil))
 sNil)
 (sIf (tV (dBin cEq (dBin oIx (dVar 3) (dC (.int 0))) (dC (.str s_int))))
 (sAug 2 oIadd (dC (.int 1)))
 sNil)))))))
 (sRet (dVar 2)))))
/-- _law_part_at(value, place): 0 value 1 place 2 step -/
def b__law_part_at (c : Cal) : SDen :=
 (sSeq (sFor (wSeq (dVar 1)) (gNm 2)
 (sIf (tV (dBin cEq (dVar 2) (dC (.str s_argument))))
 (sSeq (sIf (PI.tOr (tV (dBin cNin (dBin oIx (dVar 0) (dC (.int 0))) (dTup (aCons (dC (.str s_con)) (aCons (dC (.str s_packet)) aNil))))) (tV (dUn cIsN (dBin oIx (dVar 0) (dC (.int 3))))))
 (sRet (dC .non))
 sNil)
 (sAsg (dBin oIx (dVar 0) (dC (.int 3))) (gNm 0)))
 (sSeq (sIf (PI.tOr (tV (dBin cNe (dBin oIx (dVar 0) (dC (.int 0))) (dC (.str s_tuple)))) (tV (dRng not (dVar 2) (aCons (dArgs bLen (aCons (dBin oIx (dVar 0) (dC (.int 1))) aNil)) aNil))))
 (sRet (dC .non))
 sNil)
 (sAsg (dBin oIx (dBin oIx (dVar 0) (dC (.int 1))) (dVar 2)) (gNm 0)))))
 (sRet (dVar 0)))
/-- _law_walks(graph, rows, value): 0 graph 1 rows 2 value 3 due 4 at 5 turn 6 node 7 part 8 key 9 pair -/
def b__law_walks (c : Cal) : SDen :=
 (sSeq (sAsg (dCallN c 16 3 (aCons (dVar 1) (aCons (dVar 2) (aCons (dLst (aCons (dC (.int 4)) (aCons (dC (.int 5)) (aCons (dC (.int 6)) aNil)))) aNil)))) (gNm 3))
 (sSeq (sAsg (dC (.int 0)) (gNm 4))
 (sSeq (sFor (wRng1 (dArgs bLen (aCons (dVar 0) aNil))) (gNm 5)
 (sSeq (sAsg (dBin oIx (dVar 0) (dVar 4)) (gNm 6))
 (sSeq (sIf (tV (dBin cEq (dVar 6) (dTup (aCons (dC (.str s_fail)) aNil))))
 (sRet (dUn cIsN (dVar 3)))
 sNil)
 (sSeq (sIf (tV (dBin cEq (dBin oIx (dVar 6) (dC (.int 0))) (dC (.str s_leaf))))
 (sRet (dBin cEq (dVar 3) (dTup (aCons (dBin oIx (dVar 6) (dC (.int 1))) (aCons (dLc (aComp (wSeq (dBin oIx (dVar 6) (dC (.int 2)))) [9] (gNm 9) PI.tYes (dTup (aCons (dBin oIx (dVar 9) (dC (.int 0))) (aCons (dCallN c 19 2 (aCons (dVar 2) (aCons (dBin oIx (dVar 9) (dC (.int 1))) aNil))) aNil))))) aNil)))))
 sNil)
 (sSeq (sAsg (dCallN c 19 2 (aCons (dVar 2) (aCons (dBin oIx (dVar 6) (dC (.int 1))) aNil))) (gNm 7))
 (sSeq (sIf (PI.tOr (tV (dUn cIsN (dVar 7))) (tV (dBin cNe (dBin oIx (dVar 7) (dC (.int 0))) (dBin oIx (dLst (aCons (dC (.str s_con)) (aCons (dC (.str s_int)) (aCons (dC (.str s_packet)) aNil)))) (dMeth mIndex (dLst (aCons (dC (.str s_constructor)) (aCons (dC (.str s_integer)) (aCons (dC (.str s_exception)) aNil)))) (aCons (dBin oIx (dVar 6) (dC (.int 0))) aNil))))))
 (sRet (dC (.bl false)))
 sNil)
 (sSeq (sAsg (dIf (tV (dBin cNe (dBin oIx (dVar 6) (dC (.int 0))) (dC (.str s_exception)))) (dBin oIx (dVar 6) (dC (.int 2))) (dCallN c 10 2 (aCons (dBin oIx (dVar 6) (dC (.int 2))) (aCons (dLst (aCons (dC (.int 4)) (aCons (dC (.int 5)) (aCons (dC (.int 6)) aNil)))) aNil)))) (gNm 8))
 (sAsg (dIf (tV (dBin cEq (dBin oIx (dVar 7) (dC (.int 1))) (dVar 8))) (dBin oIx (dVar 6) (dC (.int 3))) (dBin oIx (dVar 6) (dC (.int 4)))) (gNm 4)))))))))
 (sRet (dC (.bl false))))))
/-- _law_nodes(tree): 0 tree 1 part -/
def b__law_nodes (c : Cal) : SDen :=
 (sSeq (sIf (PI.tOr (PI.tNot (tT (dIsA .tuple (dVar 0)))) (tV (dBin cEq (dVar 0) (dTup aNil))))
 (sRet (dC (.int 0)))
 sNil)
 (sRet (dBin oAdd (dArgs bInt (aCons (dIsA .str (dBin oIx (dVar 0) (dC (.int 0)))) aNil)) (dArgs fSum (aComp (wSeq (dVar 0)) [1] (gNm 1) PI.tYes (dCallN c 21 1 (aCons (dVar 1) aNil)))))))
/-- law(script): 0 script 1 tape 2 wide 3 kind 4 many 5 rows 6 handed 7 graph 8 k 9 turn 10 row -/
def b_law (c : Cal) : SDen :=
 (sSeq (sAsg (dCallN c 3 2 (aCons (dVar 0) (aCons (dC (.int 0)) aNil))) (gNm 1))
 (sSeq (sAsg (dBin cEq (dCallN c 4 2 (aCons (dVar 1) (aCons (dC (.int 6)) aNil))) (dC (.int 0))) (gNm 2))
 (sSeq (sAsg (dCallN c 7 2 (aCons (dVar 1) (aCons (dIf (tT (dVar 2)) (dC (.int 1)) (dC (.int 3))) aNil))) (gNm 3))
 (sSeq (sAsg (dIf (tT (dVar 2)) (dC (.int 12)) (dBin oAdd (dC (.int 1)) (dCallN c 4 2 (aCons (dVar 1) (aCons (dC (.int 6)) aNil))))) (gNm 4))
 (sSeq (sAsg (dLc (aComp (wRng1 (dVar 4)) [8] (gNm 8) PI.tYes (dCallN c 8 3 (aCons (dVar 1) (aCons (dVar 3) (aCons (dLst aNil) aNil)))))) (gNm 5))
 (sSeq (sWhile (PI.tAnd (tV (dBin cGt (dArgs bLen (aCons (dVar 5) aNil)) (dC (.int 1)))) (tV (dBin cGt (dArgs fSum (aComp (wSeq (dVar 5)) [10] (gNm 10) PI.tYes (dCallN c 21 1 (aCons (dVar 10) aNil)))) (dC (.int 380)))))
 (sExpr (dMeth mPop (dVar 5) aNil)))
 (sSeq (sAsg (dArgs bList (aCons (dVar 5) aNil)) (gNm 6))
 (sSeq (sAsg (dCallN c 1 1 (aCons (dVar 6) aNil)) (gNm 7))
 (sSeq (sIf (PI.tOr (tV (dBin cNe (dVar 6) (dVar 5))) (PI.tNot (tT (dCallN c 17 2 (aCons (dVar 7) (aCons (dVar 5) aNil))))))
 (sRet (dC (.bl false)))
 sNil)
 (sRet (dArgs fAll (aComp (wRng1 (dC (.int 8))) [9] (gNm 9) PI.tYes (dCallN c 20 3 (aCons (dVar 7) (aCons (dVar 5) (aCons (dCallN c 9 3 (aCons (dVar 1) (aCons (dVar 3) (aCons (dLst (aCons (dC (.int 4)) (aCons (dC (.int 5)) (aCons (dC (.int 6)) aNil)))) aNil)))) aNil))))))))))))))))
def T : Nat → Df
  | 0 => ⟨7, 4, b_walk_pattern⟩
  | 1 => ⟨10, 1, b_decision_graph⟩
  | 2 => ⟨1, 1, b__law_mix⟩
  | 3 => ⟨2, 2, b__law_tape⟩
  | 4 => ⟨4, 2, b__law_take⟩
  | 5 => ⟨0, 0, b__law_paths⟩
  | 6 => ⟨2, 2, b__law_integer⟩
  | 7 => ⟨11, 2, b__law_kind⟩
  | 8 => ⟨9, 3, b__law_pattern⟩
  | 9 => ⟨7, 3, b__law_value⟩
  | 10 => ⟨2, 2, b__law_number_of⟩
  | 11 => ⟨7, 4, b__law_fit⟩
  | 12 => ⟨3, 1, b__law_pairs⟩
  | 13 => ⟨2, 1, b__law_is_place⟩
  | 14 => ⟨3, 2, b__law_is_leaf⟩
  | 15 => ⟨3, 3, b__law_is_test⟩
  | 16 => ⟨5, 3, b__law_first⟩
  | 17 => ⟨7, 2, b__law_graph_form⟩
  | 18 => ⟨4, 1, b__law_tests⟩
  | 19 => ⟨3, 2, b__law_part_at⟩
  | 20 => ⟨10, 3, b__law_walks⟩
  | 21 => ⟨2, 1, b__law_nodes⟩
  | 22 => ⟨11, 1, b_law⟩
  | _ => ⟨0, 0, fun _ => sNil⟩
theorem sem_walk_pattern (f : Nat) (ds : List D) (h : Hh) : sem T (f + 1) 0 ds h = runBody 7 (b_walk_pattern (sem T f)) 4 ds h := rfl
theorem sem_decision_graph (f : Nat) (ds : List D) (h : Hh) : sem T (f + 1) 1 ds h = runBody 10 (b_decision_graph (sem T f)) 1 ds h := rfl
theorem sem__law_mix (f : Nat) (ds : List D) (h : Hh) : sem T (f + 1) 2 ds h = runBody 1 (b__law_mix (sem T f)) 1 ds h := rfl
theorem sem__law_tape (f : Nat) (ds : List D) (h : Hh) : sem T (f + 1) 3 ds h = runBody 2 (b__law_tape (sem T f)) 2 ds h := rfl
theorem sem__law_take (f : Nat) (ds : List D) (h : Hh) : sem T (f + 1) 4 ds h = runBody 4 (b__law_take (sem T f)) 2 ds h := rfl
theorem sem__law_paths (f : Nat) (ds : List D) (h : Hh) : sem T (f + 1) 5 ds h = runBody 0 (b__law_paths (sem T f)) 0 ds h := rfl
theorem sem__law_integer (f : Nat) (ds : List D) (h : Hh) : sem T (f + 1) 6 ds h = runBody 2 (b__law_integer (sem T f)) 2 ds h := rfl
theorem sem__law_kind (f : Nat) (ds : List D) (h : Hh) : sem T (f + 1) 7 ds h = runBody 11 (b__law_kind (sem T f)) 2 ds h := rfl
theorem sem__law_pattern (f : Nat) (ds : List D) (h : Hh) : sem T (f + 1) 8 ds h = runBody 9 (b__law_pattern (sem T f)) 3 ds h := rfl
theorem sem__law_value (f : Nat) (ds : List D) (h : Hh) : sem T (f + 1) 9 ds h = runBody 7 (b__law_value (sem T f)) 3 ds h := rfl
theorem sem__law_number_of (f : Nat) (ds : List D) (h : Hh) : sem T (f + 1) 10 ds h = runBody 2 (b__law_number_of (sem T f)) 2 ds h := rfl
theorem sem__law_fit (f : Nat) (ds : List D) (h : Hh) : sem T (f + 1) 11 ds h = runBody 7 (b__law_fit (sem T f)) 4 ds h := rfl
theorem sem__law_pairs (f : Nat) (ds : List D) (h : Hh) : sem T (f + 1) 12 ds h = runBody 3 (b__law_pairs (sem T f)) 1 ds h := rfl
theorem sem__law_is_place (f : Nat) (ds : List D) (h : Hh) : sem T (f + 1) 13 ds h = runBody 2 (b__law_is_place (sem T f)) 1 ds h := rfl
theorem sem__law_is_leaf (f : Nat) (ds : List D) (h : Hh) : sem T (f + 1) 14 ds h = runBody 3 (b__law_is_leaf (sem T f)) 2 ds h := rfl
theorem sem__law_is_test (f : Nat) (ds : List D) (h : Hh) : sem T (f + 1) 15 ds h = runBody 3 (b__law_is_test (sem T f)) 3 ds h := rfl
theorem sem__law_first (f : Nat) (ds : List D) (h : Hh) : sem T (f + 1) 16 ds h = runBody 5 (b__law_first (sem T f)) 3 ds h := rfl
theorem sem__law_graph_form (f : Nat) (ds : List D) (h : Hh) : sem T (f + 1) 17 ds h = runBody 7 (b__law_graph_form (sem T f)) 2 ds h := rfl
theorem sem__law_tests (f : Nat) (ds : List D) (h : Hh) : sem T (f + 1) 18 ds h = runBody 4 (b__law_tests (sem T f)) 1 ds h := rfl
theorem sem__law_part_at (f : Nat) (ds : List D) (h : Hh) : sem T (f + 1) 19 ds h = runBody 3 (b__law_part_at (sem T f)) 2 ds h := rfl
theorem sem__law_walks (f : Nat) (ds : List D) (h : Hh) : sem T (f + 1) 20 ds h = runBody 10 (b__law_walks (sem T f)) 3 ds h := rfl
theorem sem__law_nodes (f : Nat) (ds : List D) (h : Hh) : sem T (f + 1) 21 ds h = runBody 2 (b__law_nodes (sem T f)) 1 ds h := rfl
theorem sem_law (f : Nat) (ds : List D) (h : Hh) : sem T (f + 1) 22 ds h = runBody 11 (b_law (sem T f)) 1 ds h := rfl
theorem sat_walk_pattern {f : Nat} {d0 d1 d2 d3 : D} {h : Hh} {Q : D → Hh → Prop} (s : Sat (b_walk_pattern (sem T f) [some d0, some d1, some d2, some d3, none, none, none] h) (retK Q)) : Sat (sem T (f + 1) 0 [d0, d1, d2, d3] h) Q := Sat.body rfl s
theorem sat_decision_graph {f : Nat} {d0 : D} {h : Hh} {Q : D → Hh → Prop} (s : Sat (b_decision_graph (sem T f) [some d0, none, none, none, none, none, none, none, none, none] h) (retK Q)) : Sat (sem T (f + 1) 1 [d0] h) Q := Sat.body rfl s
theorem sat__law_mix {f : Nat} {d0 : D} {h : Hh} {Q : D → Hh → Prop} (s : Sat (b__law_mix (sem T f) [some d0] h) (retK Q)) : Sat (sem T (f + 1) 2 [d0] h) Q := Sat.body rfl s
theorem sat__law_tape {f : Nat} {d0 d1 : D} {h : Hh} {Q : D → Hh → Prop} (s : Sat (b__law_tape (sem T f) [some d0, some d1] h) (retK Q)) : Sat (sem T (f + 1) 3 [d0, d1] h) Q := Sat.body rfl s
theorem sat__law_take {f : Nat} {d0 d1 : D} {h : Hh} {Q : D → Hh → Prop} (s : Sat (b__law_take (sem T f) [some d0, some d1, none, none] h) (retK Q)) : Sat (sem T (f + 1) 4 [d0, d1] h) Q := Sat.body rfl s
theorem sat__law_paths {f : Nat} {h : Hh} {Q : D → Hh → Prop} (s : Sat (b__law_paths (sem T f) [] h) (retK Q)) : Sat (sem T (f + 1) 5 [] h) Q := Sat.body rfl s
theorem sat__law_integer {f : Nat} {d0 d1 : D} {h : Hh} {Q : D → Hh → Prop} (s : Sat (b__law_integer (sem T f) [some d0, some d1] h) (retK Q)) : Sat (sem T (f + 1) 6 [d0, d1] h) Q := Sat.body rfl s
theorem sat__law_kind {f : Nat} {d0 d1 : D} {h : Hh} {Q : D → Hh → Prop} (s : Sat (b__law_kind (sem T f) [some d0, some d1, none, none, none, none, none, none, none, none, none] h) (retK Q)) : Sat (sem T (f + 1) 7 [d0, d1] h) Q := Sat.body rfl s
theorem sat__law_pattern {f : Nat} {d0 d1 d2 : D} {h : Hh} {Q : D → Hh → Prop} (s : Sat (b__law_pattern (sem T f) [some d0, some d1, some d2, none, none, none, none, none, none] h) (retK Q)) : Sat (sem T (f + 1) 8 [d0, d1, d2] h) Q := Sat.body rfl s
theorem sat__law_value {f : Nat} {d0 d1 d2 : D} {h : Hh} {Q : D → Hh → Prop} (s : Sat (b__law_value (sem T f) [some d0, some d1, some d2, none, none, none, none] h) (retK Q)) : Sat (sem T (f + 1) 9 [d0, d1, d2] h) Q := Sat.body rfl s
theorem sat__law_number_of {f : Nat} {d0 d1 : D} {h : Hh} {Q : D → Hh → Prop} (s : Sat (b__law_number_of (sem T f) [some d0, some d1] h) (retK Q)) : Sat (sem T (f + 1) 10 [d0, d1] h) Q := Sat.body rfl s
theorem sat__law_fit {f : Nat} {d0 d1 d2 d3 : D} {h : Hh} {Q : D → Hh → Prop} (s : Sat (b__law_fit (sem T f) [some d0, some d1, some d2, some d3, none, none, none] h) (retK Q)) : Sat (sem T (f + 1) 11 [d0, d1, d2, d3] h) Q := Sat.body rfl s
theorem sat__law_pairs {f : Nat} {d0 : D} {h : Hh} {Q : D → Hh → Prop} (s : Sat (b__law_pairs (sem T f) [some d0, none, none] h) (retK Q)) : Sat (sem T (f + 1) 12 [d0] h) Q := Sat.body rfl s
theorem sat__law_is_place {f : Nat} {d0 : D} {h : Hh} {Q : D → Hh → Prop} (s : Sat (b__law_is_place (sem T f) [some d0, none] h) (retK Q)) : Sat (sem T (f + 1) 13 [d0] h) Q := Sat.body rfl s
theorem sat__law_is_leaf {f : Nat} {d0 d1 : D} {h : Hh} {Q : D → Hh → Prop} (s : Sat (b__law_is_leaf (sem T f) [some d0, some d1, none] h) (retK Q)) : Sat (sem T (f + 1) 14 [d0, d1] h) Q := Sat.body rfl s
theorem sat__law_is_test {f : Nat} {d0 d1 d2 : D} {h : Hh} {Q : D → Hh → Prop} (s : Sat (b__law_is_test (sem T f) [some d0, some d1, some d2] h) (retK Q)) : Sat (sem T (f + 1) 15 [d0, d1, d2] h) Q := Sat.body rfl s
theorem sat__law_first {f : Nat} {d0 d1 d2 : D} {h : Hh} {Q : D → Hh → Prop} (s : Sat (b__law_first (sem T f) [some d0, some d1, some d2, none, none] h) (retK Q)) : Sat (sem T (f + 1) 16 [d0, d1, d2] h) Q := Sat.body rfl s
theorem sat__law_graph_form {f : Nat} {d0 d1 : D} {h : Hh} {Q : D → Hh → Prop} (s : Sat (b__law_graph_form (sem T f) [some d0, some d1, none, none, none, none, none] h) (retK Q)) : Sat (sem T (f + 1) 17 [d0, d1] h) Q := Sat.body rfl s
theorem sat__law_tests {f : Nat} {d0 : D} {h : Hh} {Q : D → Hh → Prop} (s : Sat (b__law_tests (sem T f) [some d0, none, none, none] h) (retK Q)) : Sat (sem T (f + 1) 18 [d0] h) Q := Sat.body rfl s
theorem sat__law_part_at {f : Nat} {d0 d1 : D} {h : Hh} {Q : D → Hh → Prop} (s : Sat (b__law_part_at (sem T f) [some d0, some d1, none] h) (retK Q)) : Sat (sem T (f + 1) 19 [d0, d1] h) Q := Sat.body rfl s
theorem sat__law_walks {f : Nat} {d0 d1 d2 : D} {h : Hh} {Q : D → Hh → Prop} (s : Sat (b__law_walks (sem T f) [some d0, some d1, some d2, none, none, none, none, none, none, none] h) (retK Q)) : Sat (sem T (f + 1) 20 [d0, d1, d2] h) Q := Sat.body rfl s
theorem sat__law_nodes {f : Nat} {d0 : D} {h : Hh} {Q : D → Hh → Prop} (s : Sat (b__law_nodes (sem T f) [some d0, none] h) (retK Q)) : Sat (sem T (f + 1) 21 [d0] h) Q := Sat.body rfl s
theorem sat_law {f : Nat} {d0 : D} {h : Hh} {Q : D → Hh → Prop} (s : Sat (b_law (sem T f) [some d0, none, none, none, none, none, none, none, none, none, none] h) (retK Q)) : Sat (sem T (f + 1) 22 [d0] h) Q := Sat.body rfl s
end K41
/-! ## LawA_K41 -/
set_option Elab.async false
set_option linter.all false
set_option maxRecDepth 100000
set_option maxHeartbeats 4000000
set_option autoImplicit false
namespace K41
open PI
theorem hP : PatT T 2 4 5 6 7 8 9 10 11 12 := ⟨rfl, rfl, rfl, rfl, rfl, rfl, rfl, rfl, rfl, rfl⟩
theorem hTape : T 3 = ⟨2, 2, tape1B⟩ := rfl
end K41
/-! ## LawB_K41 -/
set_option Elab.async false
set_option linter.all false
set_option maxRecDepth 100000
set_option maxHeartbeats 4000000
set_option autoImplicit false
/-! K41: graphs, in plain terms. -/
namespace K41
open PI
inductive Hop where
  | ix (i : Nat) | arg
def Hop.enc : Hop → D
  | .ix i => .int (i : Nat)
  | .arg => .str s_argument
def plD (pl : List Hop) : D := .tup (pl.map Hop.enc)
inductive Key where
  | num (i : Int) | path (i : Nat)
def Key.enc : Key → D
  | .num i => .int i
  | .path i => pathD i
def Key.val (num : Nat → Int) : Key → Int
  | .num i => i
  | .path i => num i
structure Tst where
  kd : List Nat
  pl : List Hop
  key : Key
def Tst.enc (t : Tst) : D := .tup [.str t.kd, plD t.pl, t.key.enc]
def bndD (b : List Nat × List Hop) : D := .tup [.str b.1, plD b.2]
mutual
def tsts : Pt → List Hop → List Tst
  | .as _ p, pl => tsts p pl
  | .int i, pl => [⟨s_integer, pl, .num i⟩]
  | .tup ps, pl => tstsL ps pl 0
  | .con _ a p, pl => ⟨s_constructor, pl, .num (a : Nat)⟩ :: tsts p (pl ++ [.arg])
  | .pkt i p, pl => ⟨s_exception, pl, .path i⟩ :: tsts p (pl ++ [.arg])
  | _, _ => []
def tstsL : List Pt → List Hop → Nat → List Tst
  | [], _, _ => []
  | p :: ps, pl, i => tsts p (pl ++ [.ix i]) ++ tstsL ps pl (i + 1)
end
mutual
def bnds : Pt → List Hop → List (List Nat × List Hop)
  | .var s, pl => [(s, pl)]
  | .as s p, pl => (s, pl) :: bnds p pl
  | .tup ps, pl => bndsL ps pl 0
  | .con _ _ p, pl => bnds p (pl ++ [.arg])
  | .pkt _ p, pl => bnds p (pl ++ [.arg])
  | _, _ => []
def bndsL : List Pt → List Hop → Nat → List (List Nat × List Hop)
  | [], _, _ => []
  | p :: ps, pl, i => bnds p (pl ++ [.ix i]) ++ bndsL ps pl (i + 1)
end
mutual
theorem bnds_len : ∀ (p : Pt) (pl : List Hop), (bnds p pl).length = p.nb
  | .var _, _ => rfl
  | .as _ p, pl => by simp [bnds, Pt.nb, bnds_len p pl]
  | .tup ps, pl => by simp [bnds, Pt.nb, bndsL_len ps pl 0]
  | .con _ _ p, pl => by simp [bnds, Pt.nb, bnds_len p]
  | .pkt _ p, pl => by simp [bnds, Pt.nb, bnds_len p]
  | .nil, _ => rfl
  | .any, _ => rfl
  | .int _, _ => rfl
theorem bndsL_len : ∀ (ps : List Pt) (pl : List Hop) (i : Nat), (bndsL ps pl i).length = Pt.nbL ps
  | [], _, _ => rfl
  | p :: ps, pl, i => by simp [bndsL, Pt.nbL, bnds_len p, bndsL_len ps]
end
/-- how many tests at most -/
def tn : Nat → Nat
  | 0 => 1
  | n + 1 => 6 * tn n + 1
theorem tn_pos (n : Nat) : 1 ≤ tn n := by cases n <;> simp [tn]
theorem tstsL_le {m : Nat} : ∀ (ps : List Pt) (pl : List Hop) (i : Nat), (∀ p ∈ ps, ∀ pl, (tsts p pl).length ≤ m) → (tstsL ps pl i).length ≤ ps.length * m
  | [], _, _, _ => by simp [tstsL]
  | p :: ps, pl, i, h => by
    have h1 := h p (by simp) (pl ++ [.ix i])
    have h2 := tstsL_le ps pl (i + 1) fun q hq => h q (by simp [hq])
    simp only [tstsL, List.length_append, List.length_cons, Nat.succ_mul]
    omega
theorem tsts_len {n : Nat} {k : Kd} {p : Pt} (h : HasP n k p) : k.Ok n → ∀ pl, (tsts p pl).length ≤ tn n := by
  induction h with
  | any => intro _ pl; simp [tsts]
  | var => intro _ pl; simp [tsts]
  | as _ ih => intro ok pl; exact ih ok pl
  | int => intro _ pl; simp [tsts]; exact tn_pos _
  | @tup n ks ps hl hp ih =>
    intro ok pl
    have := tstsL_le (m := tn n) ps pl 0 (fun p hp2 pl => by
      obtain ⟨i, hi, ei⟩ := List.mem_iff_getElem.mp hp2
      have gk := List.getElem?_eq_getElem (l := ks) (i := i) (by omega)
      exact ih i _ p gk (by rw [List.getElem?_eq_getElem hi, ei]) (ok.2.2 _ (List.mem_of_getElem? gk)) pl)
    have h6 : ps.length ≤ 6 := by have := ok.1; omega
    have := Nat.mul_le_mul_right (tn n) h6
    simp only [tsts, tn]
    omega
  | pkt0 => intro _ pl; simp [tsts, tn]
  | @pkt1 n i ks k p e hk hp ih =>
    intro ok pl
    have okk : k.Ok n := (ok.2 k (List.mem_of_getElem? e)).resolve_left hk
    have := ih okk (pl ++ [.arg])
    have := tn_pos n
    simp only [tsts, tn, List.length_cons]
    omega
  | con0 => intro _ pl; simp [tsts, tn]
  | @con1 n a fam ks k p e hk hp ih =>
    intro ok pl
    have okk : k.Ok n := (ok.2.2.2.2 k (List.mem_of_getElem? e)).resolve_left hk
    have := ih okk (pl ++ [.arg])
    have := tn_pos n
    simp only [tsts, tn, List.length_cons]
    omega
/-! ### what is tested -/
def hop1 : D → Hop → Option D
  | .tup [.str t, _, _, x], .arg => if (decide (t = s_con) || decide (t = s_packet)) && decide (isN x = some false) then some x else none
  | .tup [.str t, .tup ys], .ix i => if t = s_tuple then ys[i]? else none
  | _, _ => none
def TagOk (kd tg : List Nat) : Prop := (kd = s_constructor ∧ tg = s_con) ∨ (kd = s_integer ∧ tg = s_int) ∨ (kd = s_exception ∧ tg = s_packet)
def partD : D → List Hop → Option D
  | d, [] => some d
  | d, s :: pl => match hop1 d s with
    | some x => partD x pl
    | none => none
theorem partD_app : ∀ (pl ql : List Hop) (d x : D), partD d pl = some x → partD d (pl ++ ql) = partD x ql
  | [], ql, d, x, h => by
    cases h
    rfl
  | s :: pl, ql, d, x, h => by
    simp only [partD, List.cons_append] at h ⊢
    cases hh : hop1 d s with
    | none => simp [hh] at h
    | some y =>
      simp only [hh] at h ⊢
      exact partD_app pl ql y x h
def PassD (num : Nat → Int) (root : D) (t : Tst) (b : Bool) : Prop := ∃ tg j r, partD root t.pl = some (.tup (.str tg :: .int j :: r)) ∧ TagOk t.kd tg ∧ b = decide (j = t.key.val num)
theorem PassD.uniq {num : Nat → Int} {root : D} {t : Tst} {b c : Bool} (h1 : PassD num root t b) (h2 : PassD num root t c) : b = c := by
  obtain ⟨_, j, _, e1, _, rfl⟩ := h1
  obtain ⟨_, j2, _, e2, _, rfl⟩ := h2
  rw [e1] at e2
  cases e2
  rfl
/-- the bindings' parts -/
def BndD (root : D) : List (List Nat × List Hop) → List D → Prop
  | [], [] => True
  | b :: bs, d :: ds => (∃ x, partD root b.2 = some x ∧ d = .tup [.str b.1, x]) ∧ BndD root bs ds
  | _, _ => False
theorem BndD.app {root : D} : ∀ {bs bs2 : List (List Nat × List Hop)} {ds ds2 : List D}, BndD root bs ds → BndD root bs2 ds2 → BndD root (bs ++ bs2) (ds ++ ds2)
  | [], _, [], _, _, h => h
  | b :: bs, _, d :: ds, _, h, h2 => ⟨h.1, BndD.app h.2 h2⟩
  | [], _, _ :: _, _, h, _ => h.elim
  | _ :: _, _, [], _, h, _ => h.elim
def Sem (num : Nat → Int) (root : D) (ts : List Tst) (bs : List (List Nat × List Hop)) (r : List D × Bool) : Prop :=
  (r.2 = true → (∀ t ∈ ts, PassD num root t true) ∧ BndD root bs r.1) ∧ (r.2 = false → ∃ pre t post, ts = pre ++ t :: post ∧ (∀ u ∈ pre, PassD num root u true) ∧ PassD num root t false)
theorem Sem.one {num : Nat → Int} {root : D} {t : Tst} {b : Bool} (h : PassD num root t b) : Sem num root [t] [] ([], b) :=
  by
  cases b with
  | true => exact ⟨fun _ => ⟨fun u hu => (by rw [List.mem_singleton] at hu; subst hu; exact h), trivial⟩, fun e => (by cases e)⟩
  | false => exact ⟨fun e => (by cases e), fun _ => ⟨[], t, [], rfl, (by simp), h⟩⟩
theorem Sem.cons {num : Nat → Int} {root : D} {t : Tst} {ts : List Tst} {bs : List (List Nat × List Hop)} {r : List D × Bool} (h : PassD num root t true) (s : Sem num root ts bs r) : Sem num root (t :: ts) bs r :=
  ⟨fun e => ⟨fun u hu => by
    rcases List.mem_cons.mp hu with rfl | hu
    · exact h
    · exact (s.1 e).1 u hu, (s.1 e).2⟩, fun e => by
    obtain ⟨pre, u, post, e1, e2, e3⟩ := s.2 e
    exact ⟨t :: pre, u, post, by rw [e1]; rfl, fun w hw => by
      rcases List.mem_cons.mp hw with rfl | hw
      · exact h
      · exact e2 w hw, e3⟩⟩
theorem Sem.fail {num : Nat → Int} {root : D} {t : Tst} {ts : List Tst} {bs : List (List Nat × List Hop)} (h : PassD num root t false) : Sem num root (t :: ts) bs ([], false) :=
  ⟨fun e => (by cases e), fun _ => ⟨[], t, ts, rfl, (by simp), h⟩⟩
theorem fitQL_sem {num : Nat → Int} {root : D} {pl : List Hop} : ∀ (ps : List Pt) (vs : List Vq) (i : Nat), ps.length = vs.length → (∀ (j : Nat) (p : Pt) (v : Vq), ps[j]? = some p → vs[j]? = some v → Sem num root (tsts p (pl ++ [.ix (i + j)])) (bnds p (pl ++ [.ix (i + j)])) (fitQ (numX num) p v)) → Sem num root (tstsL ps pl i) (bndsL ps pl i) (fitQL (numX num) ps vs)
  | [], [], i, _, _ => ⟨fun _ => ⟨by simp [tstsL], trivial⟩, fun e => by simp [fitQL] at e⟩
  | [], _ :: _, i, hl, _ => by simp at hl
  | _ :: _, [], i, hl, _ => by simp at hl
  | p :: ps, v :: vs, i, hl, h => by
    have h0 := h 0 p v rfl rfl
    have hr := fitQL_sem ps vs (i + 1) (by simpa using hl) fun j q w hq hw => by
      have := h (j + 1) q w (by simpa using hq) (by simpa using hw)
      rw [show i + (j + 1) = i + 1 + j by omega] at this
      exact this
    rw [Nat.add_zero] at h0
    rw [fitQL, tstsL, bndsL]
    by_cases c : (fitQ (numX num) p v).2 = true
    · rw [if_pos c]
      obtain ⟨a1, a2⟩ := h0.1 c
      refine ⟨fun e => ?_, fun e => ?_⟩
      · obtain ⟨b1, b2⟩ := hr.1 e
        exact ⟨fun u hu => by
          rcases List.mem_append.mp hu with w | w
          · exact a1 u w
          · exact b1 u w, a2.app b2⟩
      · obtain ⟨pre, u, post, e1, e2, e3⟩ := hr.2 e
        refine ⟨tsts p (pl ++ [.ix i]) ++ pre, u, post, by rw [e1]; simp, fun w hw => ?_, e3⟩
        rcases List.mem_append.mp hw with z | z
        · exact a1 w z
        · exact e2 w z
    · rw [if_neg c]
      refine ⟨fun e => (by cases e), fun _ => ?_⟩
      obtain ⟨pre, u, post, e1, e2, e3⟩ := h0.2 (by simpa using c)
      exact ⟨pre, u, post ++ tstsL ps pl (i + 1), by rw [e1]; simp, e2, e3⟩
theorem hop_arg {t : List Nat} {a b : D} {w : Vq} (ht : t = s_con ∨ t = s_packet) (hw : w.isNil = false) : partD (.tup [.str t, a, b, w.enc]) [.arg] = some w.enc := by
  have e : isN w.enc = some false := by rw [isN_v, hw]
  have : (decide (t = s_con) || decide (t = s_packet)) = true := by
    rcases ht with rfl | rfl
    · rw [decide_eq_true rfl]; rfl
    · rw [decide_eq_true (show s_packet = s_packet from rfl), Bool.or_true]
  have h1 : hop1 (.tup [.str t, a, b, w.enc]) .arg = some w.enc := by
    simp only [hop1]
    rw [this, e]
    simp
  simp only [partD, h1]
theorem tests_sem {num : Nat → Int} (h77 : ∀ i, num i ≠ 77) {n : Nat} {k : Kd} {p : Pt} (hp : HasP n k p) : ∀ {v : Vq} {root : D} {pl : List Hop}, HasV num n k v → k.Ok n → k.Cl num n → partD root pl = some v.enc → Sem num root (tsts p pl) (bnds p pl) (fitQ (numX num) p v) := by
  induction hp with
  | any =>
    intro v root pl hv ok cl hr
    have e : fitQ (numX num) .any v = ([], true) := by cases v <;> rfl
    rw [e]
    exact ⟨fun _ => ⟨(by simp [tsts]), trivial⟩, fun e => (by cases e)⟩
  | @var n k s =>
    intro v root pl hv ok cl hr
    have e : fitQ (numX num) (.var s) v = ([.tup [.str s, v.enc]], true) := by cases v <;> rfl
    rw [e]
    exact ⟨fun _ => ⟨(by simp [tsts]), ⟨_, hr, rfl⟩, trivial⟩, fun e => (by cases e)⟩
  | @as n k p s hp _ ih =>
    intro v root pl hv ok cl hr
    have e : fitQ (numX num) (.as s p) v = (.tup [.str s, v.enc] :: (fitQ (numX num) p v).1, (fitQ (numX num) p v).2) := by cases v <;> rfl
    rw [e]
    have := ih hv ok cl hr
    exact ⟨fun e => ⟨(this.1 e).1, ⟨_, hr, rfl⟩, (this.1 e).2⟩, fun e => this.2 e⟩
  | @int n i _ _ =>
    intro v root pl hv ok cl hr
    cases v with
    | int j =>
      have e : fitQ (numX num) (.int i) (.int j) = ([], decide (j = i)) := rfl
      rw [e]
      exact Sem.one ⟨_, j, [], hr, .inr (.inl ⟨rfl, rfl⟩), rfl⟩
    | _ => cases n <;> exact hv.elim
  | @tup n ks ps hl hp ih =>
    intro v root pl hv ok cl hr
    cases v with
    | tup vs =>
      obtain ⟨hl2, hv⟩ := hv
      have hlen : ps.length = vs.length := by omega
      have e : fitQ (numX num) (.tup ps) (.tup vs) = fitQL (numX num) ps vs := by simp [fitQ, hlen]
      rw [e]
      refine fitQL_sem ps vs 0 hlen fun j p w hp2 hw => ?_
      have hj : j < ks.length := by
        have := (List.getElem?_eq_some_iff.mp hp2).1
        omega
      have gk := List.getElem?_eq_getElem hj
      refine ih j _ p gk hp2 (hv j _ w gk hw) (ok.2.2 _ (List.mem_of_getElem? gk)) (cl _ (List.mem_of_getElem? gk)) ?_
      rw [partD_app pl _ root _ hr, Nat.zero_add]
      simp only [partD, hop1, Vq.enc, vencL_at hw, if_pos (show t_tuple = s_tuple from rfl)]
    | _ => exact hv.elim
  | @pkt0 n i ks e =>
    intro v root pl hv ok cl hr
    cases v with
    | pkt m nm w =>
      have hi : i < 3 := by have := (List.getElem?_eq_some_iff.mp e).1; have := ok.1; omega
      obtain ⟨_, hv⟩ := hv
      have hpass : PassD num root ⟨s_exception, pl, .path i⟩ (decide (m = num i)) := ⟨_, m, _, hr, .inr (.inr ⟨rfl, rfl⟩), rfl⟩
      by_cases c : m = num i
      · have wn : w = .nil := by
          rcases hv with ⟨h7, _⟩ | ⟨j, kj, ej, em, hw⟩
          · exact absurd (c.symm.trans h7) (h77 i)
          · have : kj = .nil := (cl.1 j i kj .nil ej e (em.symm.trans c))
            rcases hw with ⟨_, hw⟩ | hw
            · exact hw
            · subst this
              cases n <;> cases w <;> exact hw.elim
        subst wn
        have ef : fitQ (numX num) (.pkt i .nil) (.pkt m nm .nil) = ([], true) := by simp [fitQ, numX_lt hi, c, Pt.isNil, Vq.isNil]
        rw [ef]
        rw [decide_eq_true c] at hpass
        exact Sem.cons hpass ⟨fun _ => ⟨(by simp [tsts]), trivial⟩, fun e => (by cases e)⟩
      · have ef : fitQ (numX num) (.pkt i .nil) (.pkt m nm w) = ([], false) := by
          have : ¬ num i = m := fun z => c z.symm
          simp [fitQ, numX_lt hi, this]
        rw [ef]
        rw [decide_eq_false c] at hpass
        exact Sem.fail hpass
    | _ => exact hv.elim
  | @pkt1 n i ks k p e hk hp ih =>
    intro v root pl hv ok cl hr
    cases v with
    | pkt m nm w =>
      have hi : i < 3 := by have := (List.getElem?_eq_some_iff.mp e).1; have := ok.1; omega
      obtain ⟨_, hv⟩ := hv
      have okk : k.Ok n := (ok.2 k (List.mem_of_getElem? e)).resolve_left hk
      have hpass : PassD num root ⟨s_exception, pl, .path i⟩ (decide (m = num i)) := ⟨_, m, _, hr, .inr (.inr ⟨rfl, rfl⟩), rfl⟩
      by_cases c : m = num i
      · have hw : HasV num n k w := by
          rcases hv with ⟨h7, _⟩ | ⟨j, kj, ej, em, hw⟩
          · exact absurd (c.symm.trans h7) (h77 i)
          · have : kj = k := (cl.1 j i kj k ej e (em.symm.trans c))
            subst this
            rcases hw with ⟨hw, _⟩ | hw
            · exact absurd hw hk
            · exact hw
        have ef : fitQ (numX num) (.pkt i p) (.pkt m nm w) = fitQ (numX num) p w := by simp [fitQ, numX_lt hi, c, hasP_ne hp, hasV_ne hw]
        rw [ef]
        rw [decide_eq_true c] at hpass
        refine Sem.cons hpass (ih hw okk (cl.2 k (List.mem_of_getElem? e)) ?_)
        rw [partD_app pl _ root _ hr]
        exact hop_arg (by first | exact .inl rfl | exact .inr rfl) (hasV_ne hw)
      · have ef : fitQ (numX num) (.pkt i p) (.pkt m nm w) = ([], false) := by
          have : ¬ num i = m := fun z => c z.symm
          simp [fitQ, numX_lt hi, this]
        rw [ef]
        rw [decide_eq_false c] at hpass
        exact Sem.fail hpass
    | _ => exact hv.elim
  | @con0 n a fam ks e =>
    intro v root pl hv ok cl hr
    cases v with
    | con b nm w =>
      obtain ⟨kb, q, e1, _, _, hw⟩ := hv
      have hpass : PassD num root ⟨s_constructor, pl, .num (a : Nat)⟩ (decide ((b : Int) = (a : Int))) := ⟨_, (b : Nat), _, hr, .inl ⟨rfl, rfl⟩, rfl⟩
      by_cases c : b = a
      · subst c
        have wn : w = .nil := by
          rw [e] at e1
          cases e1
          rcases hw with ⟨_, hw⟩ | hw
          · exact hw
          · cases n <;> cases w <;> exact hw.elim
        subst wn
        have ef : fitQ (numX num) (.con fam b .nil) (.con b nm .nil) = ([], true) := by simp [fitQ, Pt.isNil, Vq.isNil]
        rw [ef]
        rw [decide_eq_true rfl] at hpass
        exact Sem.cons hpass ⟨fun _ => ⟨(by simp [tsts]), trivial⟩, fun e => (by cases e)⟩
      · have ef : fitQ (numX num) (.con fam a .nil) (.con b nm w) = ([], false) := by simp [fitQ, c]
        rw [ef]
        rw [decide_eq_false (by omega)] at hpass
        exact Sem.fail hpass
    | _ => exact hv.elim
  | @con1 n a fam ks k p e hk hp ih =>
    intro v root pl hv ok cl hr
    cases v with
    | con b nm w =>
      obtain ⟨kb, q, e1, _, _, hw⟩ := hv
      have okk : k.Ok n := (ok.2.2.2.2 k (List.mem_of_getElem? e)).resolve_left hk
      have hpass : PassD num root ⟨s_constructor, pl, .num (a : Nat)⟩ (decide ((b : Int) = (a : Int))) := ⟨_, (b : Nat), _, hr, .inl ⟨rfl, rfl⟩, rfl⟩
      by_cases c : b = a
      · subst c
        have hw : HasV num n k w := by
          rw [e] at e1
          cases e1
          rcases hw with ⟨hw, _⟩ | hw
          · exact absurd hw hk
          · exact hw
        have ef : fitQ (numX num) (.con fam b p) (.con b nm w) = fitQ (numX num) p w := by simp [fitQ, hasP_ne hp, hasV_ne hw]
        rw [ef]
        rw [decide_eq_true rfl] at hpass
        refine Sem.cons hpass (ih hw okk (cl k (List.mem_of_getElem? e)) ?_)
        rw [partD_app pl _ root _ hr]
        exact hop_arg (by first | exact .inl rfl | exact .inr rfl) (hasV_ne hw)
      · have ef : fitQ (numX num) (.con fam a p) (.con b nm w) = ([], false) := by simp [fitQ, c]
        rw [ef]
        rw [decide_eq_false (by omega)] at hpass
        exact Sem.fail hpass
    | _ => exact hv.elim
/-! ### graphs -/
def nodesGo : Nat → Nat → List Tst → List D
  | _, _, [] => []
  | b, a, t :: ts => .tup [.str t.kd, plD t.pl, t.key.enc, .int ((b + 1 : Nat) : Int), .int (a : Nat)] :: nodesGo (b + 1) a ts
def leafD (k : Nat) (p : Pt) : D := .tup [.str s_leaf, .int (k : Nat), .tup ((bnds p []).map bndD)]
def nt (p : Pt) : Nat := (tsts p []).length
def rowN (b k : Nat) (p : Pt) : List D := nodesGo b (b + nt p + 1) (tsts p []) ++ [leafD k p]
def graphN : Nat → Nat → List Pt → List D
  | _, _, [] => []
  | b, k, p :: ps => rowN b k p ++ graphN (b + nt p + 1) (k + 1) ps
def failD : D := .tup [.str s_fail]
theorem nodesGo_len : ∀ (b a : Nat) (ts : List Tst), (nodesGo b a ts).length = ts.length
  | _, _, [] => rfl
  | b, a, t :: ts => by rw [nodesGo, List.length_cons, nodesGo_len, List.length_cons]
theorem nodesGo_at : ∀ (b a : Nat) (ts : List Tst) (j : Nat) (t : Tst), ts[j]? = some t → (nodesGo b a ts)[j]? = some (.tup [.str t.kd, plD t.pl, t.key.enc, .int ((b + j + 1 : Nat) : Int), .int (a : Nat)])
  | _, _, [], _, _, h => by simp at h
  | b, a, u :: ts, 0, t, h => by
    simp at h
    subst h
    rfl
  | b, a, u :: ts, j + 1, t, h => by
    have := nodesGo_at (b + 1) a ts j t (by simpa using h)
    rw [nodesGo, List.getElem?_cons_succ, this, show b + 1 + j + 1 = b + (j + 1) + 1 by omega]
theorem rowN_len (b k : Nat) (p : Pt) : (rowN b k p).length = nt p + 1 := by simp [rowN, nodesGo_len, nt]
theorem graphN_app : ∀ (b k : Nat) (xs ys : List Pt), graphN b k (xs ++ ys) = graphN b k xs ++ graphN (b + (graphN b k xs).length) (k + xs.length) ys
  | b, k, [], ys => by simp [graphN]
  | b, k, x :: xs, ys => by
    rw [List.cons_append, graphN, graphN, graphN_app (b + nt x + 1) (k + 1) xs ys, List.append_assoc, List.length_append, rowN_len, List.length_cons]
    rw [show b + nt x + 1 + (graphN (b + nt x + 1) (k + 1) xs).length = b + (nt x + 1 + (graphN (b + nt x + 1) (k + 1) xs).length) by omega, show k + 1 + xs.length = k + (xs.length + 1) by omega]
/-- the first row that the value fits -/
def firstF (num : Nat → Int) (v : Vq) : Nat → List Pt → Option (Nat × Pt)
  | _, [] => none
  | k, p :: ps => if (fitQ (numX num) p v).2 = true then some (k, p) else firstF num v (k + 1) ps
theorem firstF_skip {num : Nat → Int} {v : Vq} : ∀ (k : Nat) (xs ys : List Pt), (∀ p ∈ xs, (fitQ (numX num) p v).2 = false) → firstF num v k (xs ++ ys) = firstF num v (k + xs.length) ys
  | k, [], ys, _ => rfl
  | k, x :: xs, ys, h => by
    have hx := h x (by simp)
    rw [List.cons_append, firstF, hx, if_neg Bool.false_ne_true, firstF_skip (k + 1) xs ys fun p hp => h p (by simp [hp]), List.length_cons, show k + 1 + xs.length = k + (xs.length + 1) by omega]
theorem firstF_cut {num : Nat → Int} {v : Vq} : ∀ (k : Nat) (xs ys : List Pt) (p : Pt), (fitQ (numX num) p v).2 = true → firstF num v k (xs ++ p :: ys) = firstF num v k (xs ++ [p])
  | k, [], ys, p, h => by simp [firstF, h]
  | k, x :: xs, ys, p, h => by
    rw [List.cons_append, List.cons_append, firstF, firstF, firstF_cut (k + 1) xs ys p h]
end K41
/-! ## LawC_K41 -/
set_option Elab.async false
set_option linter.all false
set_option maxRecDepth 100000
set_option maxHeartbeats 4000000
set_option autoImplicit false
namespace K41
open PI
local macro_rules | `(tactic| walk_at "pi") => `(tactic| (
  first
  | (with_reducible refine PI.red ?_)
  | ((with_reducible show PI.Sat (PI.dVar _ _ _) _); refine Sat.var rfl ?_)
  | ((with_reducible show PI.Sat (PI.sAug _ _ _ _ _) _); refine Sat.aug rfl ?_)
  | ((with_reducible show PI.npK _ _ _); refine npK.mk rfl ?_)
  | ((with_reducible show PI.szK _ _); refine szK.mk (by simp only [List.length_cons, List.length_nil]; decide) ?_)
  | ((with_reducible show PI.isaK _ _ _ _); refine isaK.mk rfl ?_)
  | ((with_reducible show PI.ifK _ _ _); first | (refine ifK.t (by rfl) ?_) | (refine ifK.f (by rfl) ?_))
  | ((with_reducible show PI.Sat (PI.gTp _ _ _ _ _) _); refine Sat.gTp rfl ?_)
  | ((with_reducible show PI.Sat (PI.cIsB _ _ _) _); refine Sat.isB rfl ?_)
  | ((with_reducible show PI.Sat (PI.cNotB _ _ _) _); refine Sat.notB rfl ?_)
  | ((with_reducible show PI.Sat (PI.cIn _ (PI.D.tup _) _) _); refine Sat.inT rfl ?_)
  | ((with_reducible show PI.Sat (PI.cNin _ (PI.D.tup _) _) _); refine Sat.ninT rfl ?_)
  | ((with_reducible show PI.Sat (PI.cIsN _ _) _); refine Sat.isN rfl ?_)
  | ((with_reducible show PI.Sat (PI.cNotN _ _) _); refine Sat.notN rfl ?_)
  | ((with_reducible show PI.Sat (PI.oPow _ _ _) _); refine Sat.powI (by decide) ?_)))
theorem still_of {h : Hh} {n : Nat} {xs : List D} (e : h[n]? = some (.lst xs)) : Wk.still h (.lst n xs) = true := Wk.still_lst (by simp only [lstAt, e])
/-- all but two lists stays -/
def But2 (M N : Nat) (h h' : Hh) : Prop := h.length ≤ h'.length ∧ ∀ i, i < h.length → i ≠ M → i ≠ N → h'[i]? = h[i]?
theorem But2.refl (M N : Nat) (h : Hh) : But2 M N h h := ⟨Nat.le_refl _, fun _ _ _ _ => rfl⟩
theorem But2.trans {M N : Nat} {h h1 h2 : Hh} (a : But2 M N h h1) (b : But2 M N h1 h2) : But2 M N h h2 := ⟨Nat.le_trans a.1 b.1, fun i hi hm hn => (b.2 i (Nat.lt_of_lt_of_le hi a.1) hm hn).trans (a.2 i hi hm hn)⟩
theorem But2.setM {M N : Nat} {h h' : Hh} {o : Ob} (a : But2 M N h h') : But2 M N h (h'.set M o) := ⟨by simpa using a.1, fun i hi hm hn => by
  rw [List.getElem?_set_ne (by omega)]
  exact a.2 i hi hm hn⟩
theorem But2.setN {M N : Nat} {h h' : Hh} {o : Ob} (a : But2 M N h h') : But2 M N h (h'.set N o) := ⟨by simpa using a.1, fun i hi hm hn => by
  rw [List.getElem?_set_ne (by omega)]
  exact a.2 i hi hm hn⟩
def Wk2 (M N : Nat) (ts : List D) (bs : List D) (h h' : Hh) : Prop := But2 M N h h' ∧ h'[M]? = some (.lst ts) ∧ h'[N]? = some (.lst bs)
section
variable {M N : Nat}
def WkR (M N : Nat) (ts0 bs0 : List D) (p : Pt) (pl : List Hop) (h : Hh) (r : D) (h' : Hh) : Prop := r = .non ∧ Wk2 M N (ts0 ++ (tsts p pl).map Tst.enc) (bs0 ++ (bnds p pl).map bndD) h h'
theorem walk1_step {g n d : Nat} (hMN : M ≠ N) {k : Kd} {p : Pt} {pl : List Hop} {h : Hh} {ts0 bs0 : List D} (hp : HasP n k p) (ok : k.Ok n) (hl : pl.length + d ≤ 1000) (hm : h[M]? = some (.lst ts0)) (hn : h[N]? = some (.lst bs0)) (hts : ts0.length + (tsts p pl).length ≤ 1000000) (hbs : bs0.length + p.nb ≤ 1000000)
    (ih : ∀ {n : Nat} {k : Kd} {p' : Pt} {pl' : List Hop} {h : Hh} {ts0 bs0 : List D}, p'.dep < p.dep → HasP n k p' → k.Ok n → pl'.length ≤ pl.length + 1 → h[M]? = some (.lst ts0) → h[N]? = some (.lst bs0) → ts0.length + (tsts p' pl').length ≤ 1000000 → bs0.length + p'.nb ≤ 1000000 → Sat (sem T g 0 [p'.enc, plD pl', .ref M, .ref N] h) (WkR M N ts0 bs0 p' pl' h)) :
    Sat (sem T (g + 1) 0 [p.enc, plD pl, .ref M, .ref N] h) (WkR M N ts0 bs0 p pl h) := by
  refine sat_walk_pattern ?_
  unfold b_walk_pattern
  have arg : ∀ {q : Pt}, plD (pl ++ [.arg]) = .tup (pl.map Hop.enc ++ [.str s_argument]) := by simp [plD, Hop.enc]
  cases hp with
  | any =>
    simp only [Pt.enc]
    repeat walk_at "pi"
    exact ⟨rfl, But2.refl _ _ _, by simpa [tsts] using hm, by simpa [bnds] using hn⟩
  | @var _ _ s =>
    simp only [Pt.enc, plD]
    repeat walk_at "pi"
    refine lsK.mk hn ?_
    repeat walk_at "pi"
    refine Sat.append hn (by unfold SL; omega) ?_
    repeat walk_at "pi"
    exact ⟨rfl, (But2.refl _ _ _).setN, by rw [List.getElem?_set_ne (by omega)]; simpa [tsts] using hm, by rw [at_set hn]; rfl⟩
  | @as _ _ q s hq =>
    simp only [Pt.enc, plD]
    simp only [Pt.nb] at hbs
    repeat walk_at "pi"
    refine lsK.mk hn ?_
    repeat walk_at "pi"
    refine Sat.append hn (by unfold SL; omega) ?_
    repeat walk_at "pi"
    refine (ih (p' := q) (pl' := pl) (by simp [Pt.dep]) hq ok (by omega) (by rw [List.getElem?_set_ne (by omega)]; exact hm) (at_set hn) hts (by simp; omega)).mono fun r h2 ⟨er, b2, e2, e3⟩ => ?_
    subst er
    repeat walk_at "pi"
    exact ⟨rfl, (But2.refl _ _ _).setN.trans b2, e2, by rw [e3, List.append_assoc]; rfl⟩
  | @int _ i _ _ =>
    simp only [Pt.enc, plD]
    repeat walk_at "pi"
    refine lsK.mk hm ?_
    repeat walk_at "pi"
    refine Sat.append hm (by unfold SL; omega) ?_
    repeat walk_at "pi"
    exact ⟨rfl, (But2.refl _ _ _).setM, by rw [at_set hm]; rfl, by rw [List.getElem?_set_ne (by omega)]; simpa [bnds] using hn⟩
  | @tup n ks ps hlen hq =>
    simp only [tsts] at hts
    simp only [Pt.nb] at hbs
    have h6 := ok.1
    simp only [Pt.enc, plD]
    repeat walk_at "pi"
    refine Sat.wEnT (Pt.encL ps) ?_
    repeat walk_at "pi"
    refine ⟨rfl, ?_⟩
    refine Sat.forGo (fun ds e h' => ∃ (rest : List Pt) (i : Nat) (ta ba : List D) (v5 v6 : Option D), ds = enumD i (Pt.encL rest) ∧ i + rest.length = ps.length ∧ (∀ (j : Nat) (k : Kd) (p : Pt), ks[i + j]? = some k → rest[j]? = some p → HasP n k p) ∧ (∀ p ∈ rest, p.dep ≤ Pt.depL ps) ∧ Wk2 M N ta ba h h' ∧ ta ++ (tstsL rest pl i).map Tst.enc = ts0 ++ (tstsL ps pl 0).map Tst.enc ∧ ba ++ (bndsL rest pl i).map bndD = bs0 ++ (bndsL ps pl 0).map bndD ∧ e = [some (.tup [.str t_tuple, .tup (Pt.encL ps)]), some (plD pl), some (.ref M), some (.ref N), some (.str t_tuple), v5, v6])
      ⟨ps, 0, ts0, bs0, _, _, rfl, by omega, fun j k p h1 h2 => hq j k p (by simpa using h1) h2, fun p hp => by
        have := pdepL_at.mp (Nat.le_refl (Pt.depL ps)) p hp
        exact this, ⟨But2.refl _ _ _, hm, hn⟩, rfl, rfl, rfl⟩ (fun _ _ _ _ => rfl) (fun d ds e h' ⟨rest, i, ta, ba, v5, v6, ed, ei, hr, hdp, ⟨b1, e1, e2⟩, et, eb, ee⟩ => ?_) fun e h' ⟨rest, i, ta, ba, v5, v6, ed, ei, hr, hdp, ⟨b1, e1, e2⟩, et, eb, ee⟩ => ?_
    · subst ee
      cases rest with
      | nil => cases ed
      | cons q rest =>
        rw [Pt.encL, enumD, List.cons.injEq] at ed
        obtain ⟨rfl, rfl⟩ := ed
        simp only [List.length_cons] at ei
        have hki : i < ks.length := by omega
        have gk := List.getElem?_eq_getElem hki
        have hpq := hr 0 _ q (by rw [Nat.add_zero]; exact gk) rfl
        have okk := ok.2.2 _ (List.mem_of_getElem? gk)
        have lt := congrArg List.length et
        have lb := congrArg List.length eb
        simp only [tstsL, bndsL, List.length_append, List.length_map] at lt lb
        rw [bndsL_len ps, bnds_len] at lb
        have epl : plD (pl ++ [.ix i]) = .tup (pl.map Hop.enc ++ [.int (i : Nat)]) := by simp [plD, Hop.enc]
        unfold plD
        repeat walk_at "pi"
        refine Sat.addT (by simp; unfold SL; omega) ?_
        repeat walk_at "pi"
        have ih2 := ih (p' := q) (pl' := pl ++ [.ix i]) (h := h') (ts0 := ta) (bs0 := ba) (by have := hdp q (by simp); simp [Pt.dep]; omega) hpq okk (by simp) e1 e2 (by omega) (by omega)
        rw [epl] at ih2
        refine ih2.mono fun r h2 ⟨er, b2, e3, e4⟩ => ?_
        subst er
        repeat walk_at "pi"
        refine ⟨rest, i + 1, _, _, _, _, rfl, by omega, fun j k p h1 h2 => hr (j + 1) k p (by rw [show i + (j + 1) = i + 1 + j by omega]; exact h1) (by simpa using h2), fun p hp => hdp p (by simp [hp]), ⟨b1.trans b2, e3, e4⟩, ?_, ?_, rfl⟩
        · rw [← et, List.append_assoc, ← List.map_append]
          rfl
        · rw [← eb, List.append_assoc, ← List.map_append]
          rfl
    · subst ee
      cases rest with
      | cons q rest => cases ed
      | nil =>
        simp only [tstsL, bndsL, List.map_nil, List.append_nil] at et eb
        repeat walk_at "pi"
        exact ⟨rfl, b1, by rw [e1, et]; rfl, by rw [e2, eb]; rfl⟩
  | @pkt0 n i ks e =>
    simp only [Pt.enc, plD]
    repeat walk_at "pi"
    refine lsK.mk hm ?_
    repeat walk_at "pi"
    refine Sat.append hm (by unfold SL; omega) ?_
    repeat walk_at "pi"
    exact ⟨rfl, (But2.refl _ _ _).setM, by rw [at_set hm]; rfl, by rw [List.getElem?_set_ne (by omega)]; simpa [bnds] using hn⟩
  | @pkt1 n i ks k q e hk hq =>
    have okk : k.Ok n := (ok.2 k (List.mem_of_getElem? e)).resolve_left hk
    simp only [tsts, List.length_cons] at hts
    simp only [Pt.nb] at hbs
    simp only [Pt.enc, plD]
    repeat walk_at "pi"
    refine lsK.mk hm ?_
    repeat walk_at "pi"
    refine Sat.append hm (by unfold SL; omega) ?_
    repeat walk_at "pi"
    refine Sat.notN (isN_p _) ?_
    rw [hasP_ne hq]
    repeat walk_at "pi"
    refine Sat.addT (by simp; unfold SL; omega) ?_
    repeat walk_at "pi"
    have ih2 := ih (p' := q) (pl' := pl ++ [.arg]) (h := h.set M (.lst (ts0 ++ [(Tst.mk s_exception pl (.path i)).enc]))) (by simp [Pt.dep]) hq okk (by simp) (at_set hm) (by rw [List.getElem?_set_ne (by omega)]; exact hn) (by simp; omega) hbs
    rw [@arg .nil] at ih2
    refine ih2.mono fun r h2 ⟨er, b2, e2, e3⟩ => ?_
    subst er
    repeat walk_at "pi"
    exact ⟨rfl, (But2.refl _ _ _).setM.trans b2, by rw [e2, List.append_assoc]; rfl, e3⟩
  | @con0 n a fam ks e =>
    simp only [Pt.enc, plD]
    repeat walk_at "pi"
    refine lsK.mk hm ?_
    repeat walk_at "pi"
    refine Sat.append hm (by unfold SL; omega) ?_
    repeat walk_at "pi"
    exact ⟨rfl, (But2.refl _ _ _).setM, by rw [at_set hm]; rfl, by rw [List.getElem?_set_ne (by omega)]; simpa [bnds] using hn⟩
  | @con1 n a fam ks k q e hk hq =>
    have okk : k.Ok n := (ok.2.2.2.2 k (List.mem_of_getElem? e)).resolve_left hk
    simp only [tsts, List.length_cons] at hts
    simp only [Pt.nb] at hbs
    simp only [Pt.enc, plD]
    repeat walk_at "pi"
    refine lsK.mk hm ?_
    repeat walk_at "pi"
    refine Sat.append hm (by unfold SL; omega) ?_
    repeat walk_at "pi"
    refine Sat.notN (isN_p _) ?_
    rw [hasP_ne hq]
    repeat walk_at "pi"
    refine Sat.addT (by simp; unfold SL; omega) ?_
    repeat walk_at "pi"
    have ih2 := ih (p' := q) (pl' := pl ++ [.arg]) (h := h.set M (.lst (ts0 ++ [(Tst.mk s_constructor pl (.num (a : Nat))).enc]))) (by simp [Pt.dep]) hq okk (by simp) (at_set hm) (by rw [List.getElem?_set_ne (by omega)]; exact hn) (by simp; omega) hbs
    rw [@arg .nil] at ih2
    refine ih2.mono fun r h2 ⟨er, b2, e2, e3⟩ => ?_
    subst er
    repeat walk_at "pi"
    exact ⟨rfl, (But2.refl _ _ _).setM.trans b2, by rw [e2, List.append_assoc]; rfl, e3⟩
theorem walk1 (hMN : M ≠ N) : ∀ (d f n : Nat) {k : Kd} {p : Pt} {pl : List Hop} {h : Hh} {ts0 bs0 : List D}, p.dep ≤ d → HasP n k p → k.Ok n → pl.length + d ≤ 1000 → h[M]? = some (.lst ts0) → h[N]? = some (.lst bs0) → ts0.length + (tsts p pl).length ≤ 1000000 → bs0.length + p.nb ≤ 1000000 →
    Sat (sem T (f + d + 1) 0 [p.enc, plD pl, .ref M, .ref N] h) (WkR M N ts0 bs0 p pl h)
  | 0, f, n, k, p, pl, h, ts0, bs0, hd, hp, ok, hl, hm, hn, hts, hbs => walk1_step (g := f) (d := 0) hMN hp ok hl hm hn hts hbs fun hlt => absurd hlt (by omega)
  | d + 1, f, n, k, p, pl, h, ts0, bs0, hd, hp, ok, hl, hm, hn, hts, hbs => walk1_step (g := f + (d + 1)) (d := d + 1) hMN hp ok hl hm hn hts hbs fun hlt hp' ok' hl' hm' hn' hts' hbs' => walk1 hMN d f _ (by omega) hp' ok' (by omega) hm' hn' hts' hbs'
end
end K41
/-! ## LawD_K41 -/
set_option Elab.async false
set_option linter.all false
set_option maxRecDepth 100000
set_option maxHeartbeats 4000000
set_option autoImplicit false
/-! K41: the graphs. -/
namespace K41
open PI
local macro_rules | `(tactic| walk_at "pi") => `(tactic| (
  first
  | (with_reducible refine PI.red ?_)
  | ((with_reducible show PI.Sat (PI.dVar _ _ _) _); refine Sat.var rfl ?_)
  | ((with_reducible show PI.Sat (PI.sAug _ _ _ _ _) _); refine Sat.aug rfl ?_)
  | ((with_reducible show PI.npK _ _ _); refine npK.mk rfl ?_)
  | ((with_reducible show PI.szK _ _); refine szK.mk (by simp only [List.length_cons, List.length_nil]; decide) ?_)
  | ((with_reducible show PI.isaK _ _ _ _); refine isaK.mk rfl ?_)
  | ((with_reducible show PI.ifK _ _ _); first | (refine ifK.t (by rfl) ?_) | (refine ifK.f (by rfl) ?_))
  | ((with_reducible show PI.Sat (PI.gTp _ _ _ _ _) _); refine Sat.gTp rfl ?_)
  | ((with_reducible show PI.Sat (PI.cIsB _ _ _) _); refine Sat.isB rfl ?_)
  | ((with_reducible show PI.Sat (PI.cNotB _ _ _) _); refine Sat.notB rfl ?_)
  | ((with_reducible show PI.Sat (PI.cIn _ (PI.D.tup _) _) _); refine Sat.inT rfl ?_)
  | ((with_reducible show PI.Sat (PI.cNin _ (PI.D.tup _) _) _); refine Sat.ninT rfl ?_)
  | ((with_reducible show PI.Sat (PI.cIsN _ _) _); refine Sat.isN rfl ?_)
  | ((with_reducible show PI.Sat (PI.cNotN _ _) _); refine Sat.notN rfl ?_)
  | ((with_reducible show PI.Sat (PI.oPow _ _ _) _); refine Sat.powI (by decide) ?_)))
/-- rows that were drawn -/
structure RowG (n : Nat) (k : Kd) (p : Pt) : Prop where
  hp : HasP n k p
  dep : p.dep ≤ 27
  nb : p.nb ≤ 2000
theorem tn_le {n : Nat} (h : n ≤ 3) : tn n ≤ 400 := by
  have : n = 0 ∨ n = 1 ∨ n = 2 ∨ n = 3 := by omega
  rcases this with rfl | rfl | rfl | rfl <;> decide
theorem graphN_len (m : Nat) : ∀ (b k : Nat) (ps : List Pt), (∀ p ∈ ps, nt p ≤ m) → (graphN b k ps).length ≤ ps.length * (m + 1)
  | _, _, [], _ => by simp [graphN]
  | b, k, p :: ps, h => by
    have h1 := h p (by simp)
    have h2 := graphN_len m (b + nt p + 1) (k + 1) ps fun q hq => h q (by simp [hq])
    rw [graphN, List.length_append, rowN_len, List.length_cons, Nat.succ_mul]
    omega
theorem But2.ext {M N : Nat} {h0 h h' : Hh} (b : But2 M N h h') (x : Ext h0 h) (hM : h0.length ≤ M) (hN : h0.length ≤ N) : Ext h0 h' := ⟨Nat.le_trans x.1 b.1, fun i hi => (b.2 i (Nat.lt_of_lt_of_le hi x.1) (by omega) (by omega)).trans (x.2 i hi)⟩
section
variable {n : Nat} {k0 : Kd} {f : Nat} {h : Hh}
theorem graph1_ok (hn3 : n ≤ 3) (ok : k0.Ok n) {R : Nat} {rows : List Pt} (hR : h[R]? = some (.lst (rows.map Pt.enc))) (hl : rows.length ≤ 12) (hr : ∀ p ∈ rows, RowG n k0 p) : Sat (sem T (f + 30) 1 [.ref R] h) fun r h' => Ext h h' ∧ ∃ (rs : List Pt) (b : Bool), r = .tup (graphN 0 0 rs ++ if b = true then [failD] else []) ∧ ((b = true ∧ rs = rows ∧ ∀ q ∈ rows, tsts q [] ≠ []) ∨ (b = false ∧ ∃ pre p post, rows = pre ++ p :: post ∧ rs = pre ++ [p] ∧ tsts p [] = [] ∧ ∀ q ∈ pre, tsts q [] ≠ [])) := by
  have tl : ∀ p ∈ rows, nt p ≤ 400 := fun p hp => Nat.le_trans (tsts_len (hr p hp).hp ok []) (tn_le hn3)
  refine sat_decision_graph ?_
  unfold b_decision_graph
  repeat walk_at "pi"
  refine Sat.wEnL R (rows.map Pt.enc) ?_
  repeat walk_at "pi"
  refine ⟨rfl, Ext.push.at hR, ?_⟩
  obtain ⟨N, hN⟩ : ∃ N, N = h.length := ⟨_, rfl⟩
  rw [← hN]
  refine Sat.forGo (fun ds e h' => Ext h h' ∧ ∃ (don rest : List Pt) (v2 v3 v4 v5 v6 v7 v8 v9 : Option D), ds = enumD don.length (rest.map Pt.enc) ∧ rows = don ++ rest ∧ (∀ q ∈ don, tsts q [] ≠ []) ∧ h'[N]? = some (.lst (graphN 0 0 don)) ∧ e = [some (.ref R), some (.ref N), v2, v3, v4, v5, v6, v7, v8, v9])
    ⟨Ext.push, [], rows, _, _, _, _, _, _, _, _, rfl, rfl, by simp, by rw [hN]; exact at_push, rfl⟩ (fun ds e h' ⟨x, _⟩ => Wk.still_enl (by simp only [lstAt, x.at hR])) (fun d ds e h' ⟨xh, don, rest, v2, v3, v4, v5, v6, v7, v8, v9, ed, er, hdt, e1, ee⟩ => ?_) fun e h' ⟨xh, don, rest, v2, v3, v4, v5, v6, v7, v8, v9, ed, er, hdt, e1, ee⟩ => ?_
  · subst ee
    cases rest with
    | nil => cases ed
    | cons p rest =>
      rw [List.map_cons, enumD, List.cons.injEq] at ed
      obtain ⟨rfl, rfl⟩ := ed
      have hpm : p ∈ rows := by rw [er]; simp
      have gp := hr p hpm
      have hdl : don.length < 12 := by
        have := congrArg List.length er
        simp at this
        omega
      have hgl := graphN_len 400 0 0 don fun q hq => tl q (by rw [er]; simp [hq])
      have hgl : (graphN 0 0 don).length ≤ 12 * 401 := Nat.le_trans hgl (Nat.mul_le_mul_right _ (by omega))
      have hpl := tl p hpm
      repeat walk_at "pi"
      have hlN := lt_of_at e1
      have w := walk1 (M := h'.length) (N := (h' ++ [Ob.lst []]).length) (by simp) 27 (f + 1) n (pl := []) (h := h' ++ [Ob.lst []] ++ [Ob.lst []]) (ts0 := []) (bs0 := []) gp.dep gp.hp ok (by decide) (Ext.push.at at_push) at_push (by simp; have := hpl; unfold nt at this; omega) (by have := gp.nb; simp; omega)
      refine w.mono fun r h2 ⟨er2, b2, e2, e3⟩ => ?_
      subst er2
      rw [List.nil_append] at e2 e3
      have x2 : Ext h' h2 := b2.ext (Ext.push.trans Ext.push) (Nat.le_refl _) (by simp)
      have e1' := x2.at e1
      repeat walk_at "pi"
      refine Sat.lenL e1' ?_
      repeat walk_at "pi"
      refine Sat.lenL e2 ?_
      repeat walk_at "pi"
      refine wsK.lst e2 ?_
      have ea : (((graphN 0 0 don).length : Nat) : Int) + (((List.map Tst.enc (tsts p [])).length : Nat) : Int) + 1 = (((graphN 0 0 don).length + nt p + 1 : Nat) : Int) := by
        rw [List.length_map]
        unfold nt
        omega
      rw [ea]
      refine Sat.forGo (fun ds e h3 => But N h2 h3 ∧ ∃ (rest2 : List Tst) (cur : List D) (v7 v8 v9 : Option D), ds = rest2.map Tst.enc ∧ h3[N]? = some (.lst cur) ∧ cur ++ nodesGo cur.length ((graphN 0 0 don).length + nt p + 1) rest2 = graphN 0 0 don ++ nodesGo (graphN 0 0 don).length ((graphN 0 0 don).length + nt p + 1) (tsts p []) ∧ e = [some (.ref R), some (.ref N), some (.int (don.length : Nat)), some p.enc, some (.ref h'.length), some (.ref (h' ++ [Ob.lst []]).length), some (.int (((graphN 0 0 don).length + nt p + 1 : Nat) : Int)), v7, v8, v9])
        ⟨But.refl _ _, tsts p [], graphN 0 0 don, _, _, _, rfl, e1', rfl, rfl⟩ (fun ds e h3 ⟨b, _⟩ => still_of (b.at (by omega) e2)) (fun d ds e h3 ⟨b3, rest2, cur, v7, v8, v9, ed, e4, ec, ee⟩ => ?_) fun e h3 ⟨b3, rest2, cur, v7, v8, v9, ed, e4, ec, ee⟩ => ?_
      · subst ee
        cases rest2 with
        | nil => cases ed
        | cons t rest2 =>
          obtain ⟨rfl, rfl⟩ := List.cons.inj ed
          have lc := congrArg List.length ec
          simp only [List.length_append, nodesGo_len, List.length_cons] at lc
          unfold Tst.enc
          repeat walk_at "pi"
          refine lsK.mk e4 ?_
          repeat walk_at "pi"
          refine Sat.lenL e4 ?_
          repeat walk_at "pi"
          refine Sat.append e4 (by unfold nt at hpl; unfold SL; omega) ?_
          repeat walk_at "pi"
          refine ⟨b3.set, rest2, _, _, _, _, rfl, at_set e4, ?_, rfl⟩
          rw [← ec, List.append_assoc, List.length_append]
          rfl
      · subst ee
        cases rest2 with
        | cons t rest2 => cases ed
        | nil =>
          simp only [nodesGo, List.append_nil] at ec
          subst ec
          have e2' := b3.at (m := h'.length) (by omega) e2
          have e3' := b3.at (m := (h' ++ [Ob.lst []]).length) (by simp; omega) e3
          have xN : Ext h h3 := by
            refine ⟨Nat.le_trans (xh.trans x2).1 b3.1, fun i hi => ?_⟩
            rw [b3.2 i (Nat.lt_of_lt_of_le hi (xh.trans x2).1) (by omega)]
            exact (xh.trans x2).2 i hi
          repeat walk_at "pi"
          refine lsK.mk e4 ?_
          repeat walk_at "pi"
          refine Sat.tupL e3' ?_
          repeat walk_at "pi"
          refine Sat.append e4 (by simp [nodesGo_len]; unfold nt at hpl; unfold SL; omega) ?_
          have eg : graphN 0 0 don ++ nodesGo (graphN 0 0 don).length ((graphN 0 0 don).length + nt p + 1) (tsts p []) ++ [leafD don.length p] = graphN 0 0 (don ++ [p]) := by
            rw [graphN_app, Nat.zero_add, Nat.zero_add, graphN, graphN, rowN]
            simp
          have e5 := at_set (o := Ob.lst (graphN 0 0 don ++ nodesGo (graphN 0 0 don).length ((graphN 0 0 don).length + nt p + 1) (tsts p []) ++ [leafD don.length p])) e4
          have e6 : (h3.set N (Ob.lst (graphN 0 0 don ++ nodesGo (graphN 0 0 don).length ((graphN 0 0 don).length + nt p + 1) (tsts p []) ++ [leafD don.length p])))[h'.length]? = some (.lst ((tsts p []).map Tst.enc)) := by
            rw [List.getElem?_set_ne (by omega)]
            exact e2'
          have x6 : Ext h (h3.set N (Ob.lst (graphN 0 0 don ++ nodesGo (graphN 0 0 don).length ((graphN 0 0 don).length + nt p + 1) (tsts p []) ++ [leafD don.length p]))) := xN.set (by omega)
          have e5' := e5.trans (congrArg (fun x => some (Ob.lst x)) eg)
          repeat walk_at "pi"
          refine trK.lst e6 ?_
          by_cases hts : tsts p [] = []
          · rw [show (!((tsts p []).map Tst.enc).isEmpty) = false by rw [hts]; rfl]
            repeat walk_at "pi"
            refine Sat.tupL e5' ?_
            repeat walk_at "pi"
            exact ⟨x6, don ++ [p], false, by simp, .inr ⟨rfl, don, p, rest, er, rfl, hts, hdt⟩⟩
          · rw [show (!((tsts p []).map Tst.enc).isEmpty) = true by simp [hts]]
            repeat walk_at "pi"
            exact ⟨x6, don ++ [p], rest, _, _, _, _, _, _, _, _, by simp, by rw [er]; simp, fun q hq => by
              rcases List.mem_append.mp hq with z | z
              · exact hdt q z
              · rw [List.mem_singleton.mp z]; exact hts, e5', rfl⟩
  · subst ee
    cases rest with
    | cons q rest => cases ed
    | nil =>
      rw [List.append_nil] at er
      subst er
      repeat walk_at "pi"
      refine lsK.mk e1 ?_
      repeat walk_at "pi"
      have hgl := graphN_len 400 0 0 rows tl
      have hgl : (graphN 0 0 rows).length ≤ 12 * 401 := Nat.le_trans hgl (Nat.mul_le_mul_right _ hl)
      refine Sat.append e1 (by unfold SL; omega) ?_
      repeat walk_at "pi"
      refine Sat.tupL (at_set e1) ?_
      repeat walk_at "pi"
      exact ⟨xh.set (by omega), rows, true, rfl, .inl ⟨rfl, rfl, hdt⟩⟩
end
end K41
/-! ## LawE_K41 -/
set_option Elab.async false
set_option linter.all false
set_option maxRecDepth 100000
set_option maxHeartbeats 4000000
set_option autoImplicit false
/-! K41: choices. -/
namespace K41
open PI
local macro_rules | `(tactic| walk_at "pi") => `(tactic| (
  first
  | (with_reducible refine PI.red ?_)
  | ((with_reducible show PI.Sat (PI.dVar _ _ _) _); refine Sat.var rfl ?_)
  | ((with_reducible show PI.Sat (PI.sAug _ _ _ _ _) _); refine Sat.aug rfl ?_)
  | ((with_reducible show PI.npK _ _ _); refine npK.mk rfl ?_)
  | ((with_reducible show PI.szK _ _); refine szK.mk (by simp only [List.length_cons, List.length_nil]; decide) ?_)
  | ((with_reducible show PI.isaK _ _ _ _); refine isaK.mk rfl ?_)
  | ((with_reducible show PI.ifK _ _ _); first | (refine ifK.t (by rfl) ?_) | (refine ifK.f (by rfl) ?_))
  | ((with_reducible show PI.Sat (PI.gTp _ _ _ _ _) _); refine Sat.gTp rfl ?_)
  | ((with_reducible show PI.Sat (PI.cIsB _ _ _) _); refine Sat.isB rfl ?_)
  | ((with_reducible show PI.Sat (PI.cNotB _ _ _) _); refine Sat.notB rfl ?_)
  | ((with_reducible show PI.Sat (PI.cIn _ (PI.D.tup _) _) _); refine Sat.inT rfl ?_)
  | ((with_reducible show PI.Sat (PI.cNin _ (PI.D.tup _) _) _); refine Sat.ninT rfl ?_)
  | ((with_reducible show PI.Sat (PI.cIsN _ _) _); refine Sat.isN rfl ?_)
  | ((with_reducible show PI.Sat (PI.cNotN _ _) _); refine Sat.notN rfl ?_)
  | ((with_reducible show PI.Sat (PI.oPow _ _ _) _); refine Sat.powI (by decide) ?_)))
theorem row_at {p : Pt} {b k j : Nat} {t : Tst} (h : (tsts p [])[j]? = some t) : (rowN b k p)[j]? = some (.tup [.str t.kd, plD t.pl, t.key.enc, .int ((b + j + 1 : Nat) : Int), .int ((b + nt p + 1 : Nat) : Int)]) := by
  have hj := (List.getElem?_eq_some_iff.mp h).1
  unfold rowN
  rw [List.getElem?_append_left (by rw [nodesGo_len]; exact hj)]
  exact nodesGo_at _ _ _ _ _ h
theorem row_leaf {p : Pt} {b k : Nat} : (rowN b k p)[nt p]? = some (leafD k p) := by
  unfold rowN
  rw [List.getElem?_append_right (by rw [nodesGo_len]; exact Nat.le_refl _), nodesGo_len]
  simp [nt]
theorem graph_at {don rest : List Pt} {p : Pt} {tl : List D} {j : Nat} {d : D} (h : (rowN (graphN 0 0 don).length don.length p)[j]? = some d) : (graphN 0 0 (don ++ p :: rest) ++ tl)[(graphN 0 0 don).length + j]? = some d := by
  have hj := (List.getElem?_eq_some_iff.mp h).1
  rw [graphN_app, Nat.zero_add, Nat.zero_add, graphN, List.append_assoc, List.append_assoc, List.getElem?_append_right (by omega)]
  rw [show (graphN 0 0 don).length + j - (graphN 0 0 don).length = j by omega, List.getElem?_append_left hj]
  exact h
theorem graph_snoc {don : List Pt} {p : Pt} : (graphN 0 0 (don ++ [p])).length = (graphN 0 0 don).length + nt p + 1 := by
  rw [graphN_app, List.length_append, graphN, graphN, List.append_nil, rowN_len]
  omega
def KdOk (t : Tst) : Prop := (t.kd = s_exception ∧ ∃ i, t.key = .path i ∧ i < 3) ∨ ((t.kd = s_integer ∨ t.kd = s_constructor) ∧ ∃ i, t.key = .num i)
theorem tstsL_kd : ∀ (ps : List Pt) (pl : List Hop) (i : Nat), (∀ p ∈ ps, ∀ pl, ∀ t ∈ tsts p pl, KdOk t) → ∀ t ∈ tstsL ps pl i, KdOk t
  | [], _, _, _, t, h => by simp [tstsL] at h
  | p :: ps, pl, i, hp, t, h => by
    rw [tstsL] at h
    rcases List.mem_append.mp h with h | h
    · exact hp p (by simp) _ t h
    · exact tstsL_kd ps pl (i + 1) (fun q hq => hp q (by simp [hq])) t h
theorem tst_kd {n : Nat} {k : Kd} {p : Pt} (hp : HasP n k p) : k.Ok n → ∀ pl, ∀ t ∈ tsts p pl, KdOk t := by
  induction hp with
  | any => intro _ pl t h; simp [tsts] at h
  | var => intro _ pl t h; simp [tsts] at h
  | as _ ih => intro ok pl t h; exact ih ok pl t h
  | int =>
    intro _ pl t h
    simp only [tsts, List.mem_singleton] at h
    subst h
    exact .inr ⟨.inl rfl, _, rfl⟩
  | @tup n ks ps hl hp ih =>
    intro ok pl t h
    refine tstsL_kd ps pl 0 (fun p hp2 pl t ht => ?_) t h
    obtain ⟨i, hi, ei⟩ := List.mem_iff_getElem.mp hp2
    have gk := List.getElem?_eq_getElem (l := ks) (i := i) (by omega)
    exact ih i _ p gk (by rw [List.getElem?_eq_getElem hi, ei]) (ok.2.2 _ (List.mem_of_getElem? gk)) pl t ht
  | @pkt0 n i ks e =>
    intro ok pl t h
    simp only [tsts, List.mem_singleton] at h
    subst h
    have := (List.getElem?_eq_some_iff.mp e).1
    have := ok.1
    exact .inl ⟨rfl, i, rfl, by omega⟩
  | @pkt1 n i ks k p e hk hp ih =>
    intro ok pl t h
    have okk : k.Ok n := (ok.2 k (List.mem_of_getElem? e)).resolve_left hk
    simp only [tsts, List.mem_cons] at h
    rcases h with rfl | h
    · have := (List.getElem?_eq_some_iff.mp e).1
      have := ok.1
      exact .inl ⟨rfl, i, rfl, by omega⟩
    · exact ih okk _ t h
  | @con0 n a fam ks e =>
    intro ok pl t h
    simp only [tsts, List.mem_singleton] at h
    subst h
    exact .inr ⟨.inr rfl, _, rfl⟩
  | @con1 n a fam ks k p e hk hp ih =>
    intro ok pl t h
    have okk : k.Ok n := (ok.2.2.2.2 k (List.mem_of_getElem? e)).resolve_left hk
    simp only [tsts, List.mem_cons] at h
    rcases h with rfl | h
    · exact .inr ⟨.inr rfl, _, rfl⟩
    · exact ih okk _ t h
/-- a test whose forerunners pass -/
theorem sem_at {num : Nat → Int} {root : D} {ts : List Tst} {bs : List (List Nat × List Hop)} {r : List D × Bool} {j : Nat} {t : Tst} (s : Sem num root ts bs r) (hj : ts[j]? = some t) (hp : ∀ (i : Nat) (u : Tst), i < j → ts[i]? = some u → PassD num root u true) : PassD num root t true ∨ (PassD num root t false ∧ r.2 = false) := by
  cases hr : r.2 with
  | true => exact .inl ((s.1 hr).1 t (List.mem_of_getElem? hj))
  | false =>
    obtain ⟨pre, u, post, e1, e2, e3⟩ := s.2 hr
    have hu : ts[pre.length]? = some u := by rw [e1]; simp
    rcases Nat.lt_trichotomy j pre.length with c | c | c
    · have : ts[j]? = pre[j]? := by rw [e1, List.getElem?_append_left c]
      rw [this] at hj
      exact .inl (e2 t (List.mem_of_getElem? hj))
    · subst c
      rw [hu] at hj
      cases hj
      exact .inr ⟨e3, rfl⟩
    · have := (hp _ u c hu).uniq e3
      cases this
theorem sem_all {num : Nat → Int} {root : D} {ts : List Tst} {bs : List (List Nat × List Hop)} {r : List D × Bool} (s : Sem num root ts bs r) (hp : ∀ (i : Nat) (u : Tst), ts[i]? = some u → PassD num root u true) : r.2 = true := by
  cases hr : r.2 with
  | true => rfl
  | false =>
    obtain ⟨pre, u, post, e1, e2, e3⟩ := s.2 hr
    have hu : ts[pre.length]? = some u := by rw [e1]; simp
    have := (hp _ u hu).uniq e3
    cases this
end K41
/-! ## LawF_K41 -/
set_option Elab.async false
set_option linter.all false
set_option maxRecDepth 100000
set_option maxHeartbeats 4000000
set_option autoImplicit false
/-! K41: rows, numbers, the first row. -/
namespace K41
open PI
local macro_rules | `(tactic| walk_at "pi") => `(tactic| (
  first
  | (with_reducible refine PI.red ?_)
  | ((with_reducible show PI.Sat (PI.dVar _ _ _) _); refine Sat.var rfl ?_)
  | ((with_reducible show PI.Sat (PI.sAug _ _ _ _ _) _); refine Sat.aug rfl ?_)
  | ((with_reducible show PI.npK _ _ _); refine npK.mk rfl ?_)
  | ((with_reducible show PI.szK _ _); refine szK.mk (by simp only [List.length_cons, List.length_nil]; decide) ?_)
  | ((with_reducible show PI.isaK _ _ _ _); refine isaK.mk rfl ?_)
  | ((with_reducible show PI.ifK _ _ _); first | (refine ifK.t (by rfl) ?_) | (refine ifK.f (by rfl) ?_))
  | ((with_reducible show PI.Sat (PI.gTp _ _ _ _ _) _); refine Sat.gTp rfl ?_)
  | ((with_reducible show PI.Sat (PI.cIsB _ _ _) _); refine Sat.isB rfl ?_)
  | ((with_reducible show PI.Sat (PI.cNotB _ _ _) _); refine Sat.notB rfl ?_)
  | ((with_reducible show PI.Sat (PI.cIn _ (PI.D.tup _) _) _); refine Sat.inT rfl ?_)
  | ((with_reducible show PI.Sat (PI.cNin _ (PI.D.tup _) _) _); refine Sat.ninT rfl ?_)
  | ((with_reducible show PI.Sat (PI.cIsN _ _) _); refine Sat.isN rfl ?_)
  | ((with_reducible show PI.Sat (PI.cNotN _ _) _); refine Sat.notN rfl ?_)
  | ((with_reducible show PI.Sat (PI.oPow _ _ _) _); refine Sat.powI (by decide) ?_)))
/-! ### drawn patterns are fit -/
theorem flL_of {ps : List Pt} (h : ∀ p ∈ ps, p.isNil = false ∧ p.fl = true) : Pt.flL ps = true := by
  induction ps with
  | nil => rfl
  | cons p ps ih =>
    obtain ⟨a, b⟩ := h p (by simp)
    rw [Pt.flL, a, b, ih fun q hq => h q (by simp [hq])]
    rfl
theorem path_deep (i : Nat) : (pathD i).deep ≤ 3 := by
  match i with
  | 0 => decide
  | 1 => decide
  | n + 2 => show (pathD 2).deep ≤ 3; decide
theorem fam_deep (fam : List (List Nat × Bool)) : D.deepL (famD fam) ≤ 1 := deepL_of fun d hd => by
  obtain ⟨q, _, rfl⟩ := List.mem_map.mp hd
  simp [D.deep, D.deepL]
theorem fam_names {n : Nat} {fam : List (List Nat × Bool)} {ks : List Kd} (ok : Kd.Ok (n + 1) (.con fam ks)) : fam.all (fun q => sfl q.1) = true := by
  rw [List.all_eq_true]
  intro q hq
  obtain ⟨i, hi, ei⟩ := List.mem_iff_getElem.mp hq
  obtain ⟨e, _⟩ := ok.2.2.1 i q (by rw [List.getElem?_eq_getElem hi, ei])
  have := ok.2.1
  rw [e]
  simp [sfl]
  omega
theorem fam_arg {n a : Nat} {fam : List (List Nat × Bool)} {ks : List Kd} {k : Kd} (ok : Kd.Ok (n + 1) (.con fam ks)) (hk : ks[a]? = some k) : ∃ b, (fam[a]?).map (·.2) = some b ∧ (b = true ↔ k ≠ .nil) := by
  have ha : a < fam.length := by have := (List.getElem?_eq_some_iff.mp hk).1; have := ok.2.2.2.1; omega
  obtain ⟨_, k', h1, h2⟩ := ok.2.2.1 a fam[a] (List.getElem?_eq_getElem ha)
  rw [hk] at h1
  cases h1
  exact ⟨fam[a].2, by rw [List.getElem?_eq_getElem ha]; rfl, h2⟩
theorem hasP_fl {n : Nat} {k : Kd} {p : Pt} (hp : HasP n k p) : k.Ok n → p.fl = true ∧ p.enc.deep ≤ p.dep + n + 4 := by
  induction hp with
  | any => intro _; exact ⟨rfl, by simp [Pt.enc, D.deep, D.deepL] <;> omega⟩
  | @var n k s hs => intro _; exact ⟨hs, by simp [Pt.enc, D.deep, D.deepL] <;> omega⟩
  | @as n k p s hp hs ih =>
    intro ok
    obtain ⟨a, b⟩ := ih ok
    refine ⟨?_, by simp only [Pt.enc, D.deep, D.deepL, Pt.dep]; omega⟩
    rw [Pt.fl, a, hasP_ne hp, show sfl s = true from hs]
    rfl
  | int => intro _; exact ⟨rfl, by simp [Pt.enc, D.deep, D.deepL] <;> omega⟩
  | @tup n ks ps hl hp ih =>
    intro ok
    have each : ∀ p ∈ ps, p.isNil = false ∧ p.fl = true ∧ p.enc.deep ≤ Pt.depL ps + n + 4 := fun p hp' => by
      obtain ⟨i, hi, ei⟩ := List.mem_iff_getElem.mp hp'
      have gp := List.getElem?_eq_getElem hi
      rw [ei] at gp
      have gk := List.getElem?_eq_getElem (l := ks) (i := i) (by omega)
      obtain ⟨a, b⟩ := ih i _ _ gk gp (ok.2.2 _ (List.mem_of_getElem? gk))
      have := (pdepL_at (n := Pt.depL ps)).mp (Nat.le_refl _) p hp'
      exact ⟨hasP_ne (hp i _ _ gk gp), a, by omega⟩
    have d1 : D.deepL (Pt.encL ps) ≤ Pt.depL ps + n + 4 := deepL_of fun e he => by
      rw [pencL] at he
      obtain ⟨p, hp', rfl⟩ := List.mem_map.mp he
      exact (each p hp').2.2
    have hw := ok.1
    exact ⟨by rw [Pt.fl, decide_eq_true (by omega), flL_of fun p hp' => ⟨(each p hp').1, (each p hp').2.1⟩]; rfl, by simp only [Pt.enc, D.deep, D.deepL, Pt.dep]; omega⟩
  | @pkt0 n i ks hk =>
    intro ok
    have hi : i < 3 := by have := (List.getElem?_eq_some_iff.mp hk).1; have := ok.1; omega
    have := path_deep i
    refine ⟨?_, by simp only [Pt.enc, D.deep, D.deepL, Pt.dep]; omega⟩
    rw [Pt.fl, decide_eq_true hi]
    rfl
  | @pkt1 n i ks k p hk hkn hp ih =>
    intro ok
    have hi : i < 3 := by have := (List.getElem?_eq_some_iff.mp hk).1; have := ok.1; omega
    obtain ⟨a, b⟩ := ih ((ksub ok.2 hk).resolve_left hkn)
    have := path_deep i
    refine ⟨?_, by simp only [Pt.enc, D.deep, D.deepL, Pt.dep]; omega⟩
    rw [Pt.fl, decide_eq_true hi, a]
    rfl
  | @con0 n a fam ks hk =>
    intro ok
    have := fam_deep fam
    obtain ⟨b, h1, h2⟩ := fam_arg ok hk
    have hb : b = false := by
      cases b with
      | false => rfl
      | true => exact absurd rfl (h2.mp rfl)
    refine ⟨?_, by simp only [Pt.enc, D.deep, D.deepL, Pt.dep]; omega⟩
    rw [Pt.fl, fam_names ok, h1, hb]
    rfl
  | @con1 n a fam ks k p hk hkn hp ih =>
    intro ok
    have := fam_deep fam
    obtain ⟨x, y⟩ := ih ((ksub ok.2.2.2.2 hk).resolve_left hkn)
    obtain ⟨b, h1, h2⟩ := fam_arg ok hk
    have hb : b = true := h2.mpr hkn
    refine ⟨?_, by simp only [Pt.enc, D.deep, D.deepL, Pt.dep]; omega⟩
    rw [Pt.fl, fam_names ok, h1, hb, x, hasP_ne hp]
    rfl
theorem ft_of {n : Nat} {k : Kd} {p : Pt} (hp : HasP n k p) (ok : k.Ok n) (hd : p.dep ≤ 30) (hn : n ≤ 3) : Ft p := by
  obtain ⟨a, b⟩ := hasP_fl hp ok
  exact ⟨hasP_ne hp, a, by omega, by omega⟩

/-! ### how many nodes -/
theorem isa_flat {h : Hh} {x : D} {ty : Ty} (hx : x.flat = true) : ∃ b, isA h ty x = some b := by
  cases x <;> first
    | exact ⟨_, rfl⟩
    | (simp [D.flat] at hx)
mutual
def slimD : D → Bool
  | .tup xs => decide (xs.length ≤ 100) && slimL xs
  | _ => true
def slimL : List D → Bool
  | [] => true
  | x :: xs => slimD x && slimL xs
end
theorem slimL_of {xs : List D} (h : ∀ x ∈ xs, slimD x = true) : slimL xs = true := by
  induction xs with
  | nil => rfl
  | cons x xs ih => rw [slimL, h x (by simp), ih fun y hy => h y (by simp [hy])]; rfl
theorem slimL_mem {xs : List D} (h : slimL xs = true) : ∀ x ∈ xs, slimD x = true := by
  induction xs with
  | nil => intro x hx; cases hx
  | cons y xs ih =>
    rw [slimL, Bool.and_eq_true] at h
    intro x hx
    rcases List.mem_cons.mp hx with rfl | hx
    · exact h.1
    · exact ih h.2 x hx
theorem path_slim (i : Nat) : slimD (pathD i) = true := by
  match i with
  | 0 => decide
  | 1 => decide
  | n + 2 => show slimD (pathD 2) = true; decide
theorem p_slim {n : Nat} {k : Kd} {p : Pt} (hp : HasP n k p) : k.Ok n → slimD p.enc = true := by
  induction hp with
  | any => intro _; rfl
  | var => intro _; rfl
  | as _ ih => intro ok; simp [Pt.enc, slimD, slimL, ih ok]
  | int => intro _; rfl
  | @tup n ks ps hl hp ih =>
    intro ok
    have h6 := ok.1
    have : slimL (Pt.encL ps) = true := slimL_of fun x hx => by
      rw [pencL] at hx
      obtain ⟨p, hp2, rfl⟩ := List.mem_map.mp hx
      obtain ⟨i, hi, ei⟩ := List.mem_iff_getElem.mp hp2
      have gk := List.getElem?_eq_getElem (l := ks) (i := i) (by omega)
      exact ih i _ p gk (by rw [List.getElem?_eq_getElem hi, ei]) (ok.2.2 _ (List.mem_of_getElem? gk))
    simp [Pt.enc, slimD, slimL, this, pencL_len]
    omega
  | pkt0 e => intro ok; simp [Pt.enc, slimD, slimL, path_slim]
  | @pkt1 n i ks k p e hk hp ih =>
    intro ok
    have okk : k.Ok n := (ok.2 k (List.mem_of_getElem? e)).resolve_left hk
    simp [Pt.enc, slimD, slimL, path_slim, ih okk]
  | @con0 n a fam ks e =>
    intro ok
    have h12 := ok.2.1
    have : slimL (famD fam) = true := slimL_of fun x hx => by
      obtain ⟨q, _, rfl⟩ := List.mem_map.mp hx
      rfl
    have hl : (famD fam).length ≤ 100 := by simp [famD]; omega
    simp [Pt.enc, slimD, slimL, this, hl]
  | @con1 n a fam ks k p e hk hp ih =>
    intro ok
    have okk : k.Ok n := (ok.2.2.2.2 k (List.mem_of_getElem? e)).resolve_left hk
    have h12 := ok.2.1
    have : slimL (famD fam) = true := slimL_of fun x hx => by
      obtain ⟨q, _, rfl⟩ := List.mem_map.mp hx
      rfl
    have hl : (famD fam).length ≤ 100 := by simp [famD]; omega
    simp [Pt.enc, slimD, slimL, this, hl, ih okk]
theorem nodes_ok : ∀ (d f : Nat) {h : Hh} {x : D}, x.flat = true → slimD x = true → x.deep ≤ d → d ≤ 60 → Sat (sem T (f + d + 1) 21 [x] h) fun r h' => Ext h h' ∧ ∃ i : Int, r = .int i := by
  intro d
  induction d with
  | zero =>
    intro f h x hx hs hd _
    refine sat__law_nodes ?_
    unfold b__law_nodes
    cases x with
    | tup xs => simp [D.deep] at hd
    | non => repeat walk_at "pi"
             exact ⟨Ext.refl _, _, rfl⟩
    | bl b => repeat walk_at "pi"
              exact ⟨Ext.refl _, _, rfl⟩
    | int i => repeat walk_at "pi"
               exact ⟨Ext.refl _, _, rfl⟩
    | str s => repeat walk_at "pi"
               exact ⟨Ext.refl _, _, rfl⟩
    | _ => simp [D.flat] at hx
  | succ d ih =>
    intro f h x hx hs hd h60
    refine sat__law_nodes ?_
    unfold b__law_nodes
    cases x with
    | tup xs =>
      have fx : (D.tup xs).fit = true := by
        rw [D.fit, hx, decide_eq_true (by omega)]
        rfl
      repeat walk_at "pi"
      refine Sat.eqT fx (by decide) ?_
      cases xs with
      | nil =>
        repeat walk_at "pi"
        exact ⟨Ext.refl _, _, rfl⟩
      | cons y ys =>
        have hfl : ∀ z ∈ y :: ys, z.flat = true ∧ z.deep ≤ d := by
          have h1 : D.flatL (y :: ys) = true := by simpa [D.flat] using hx
          have h2 : D.deepL (y :: ys) ≤ d := by simp only [D.deep] at hd; omega
          have gen : ∀ zs : List D, D.flatL zs = true → D.deepL zs ≤ d → ∀ z ∈ zs, z.flat = true ∧ z.deep ≤ d := by
            intro zs
            induction zs with
            | nil => intro _ _ z hz; cases hz
            | cons w zs ihz =>
              intro a b z hz
              rw [D.flatL, Bool.and_eq_true] at a
              rw [D.deepL] at b
              rcases List.mem_cons.mp hz with rfl | hz
              · exact ⟨a.1, by omega⟩
              · exact ihz a.2 (by omega) z hz
          exact gen _ h1 h2
        rw [show D.eqvL (y :: ys) [] = false from rfl]
        repeat walk_at "pi"
        obtain ⟨b, hb⟩ := isa_flat (h := h) (ty := .str) (hfl y (by simp)).1
        refine isaK.mk hb ?_
        repeat walk_at "pi"
        have hsl : (y :: ys).length ≤ 100 ∧ slimL (y :: ys) = true := by simpa only [slimD, Bool.and_eq_true, decide_eq_true_eq] using hs
        refine Sat.compGo (fun ds acc h' => Ext h h' ∧ (∀ z ∈ ds, z ∈ y :: ys) ∧ acc.length + ds.length = (y :: ys).length ∧ ∃ is : List Int, acc = is.map .int) ⟨Ext.refl _, fun z hz => hz, by simp [Wk.items], [], rfl⟩ (fun _ _ _ _ => rfl) (fun z ds acc h' ⟨xh, hm, hln, is, ei⟩ => ?_) fun acc h' ⟨xh, hm, hln, is, ei⟩ => ?_
        · obtain ⟨z1, z2⟩ := hfl z (hm z (by simp))
          have z3 := slimL_mem hsl.2 z (hm z (by simp))
          simp only [List.length_cons] at hln hsl
          repeat walk_at "pi"
          refine (ih f (h := h') z1 z3 z2 (by omega)).mono fun r h2 ⟨x2, i, er⟩ => ?_
          subst er ei
          exact ⟨by unfold SL; omega, xh.trans x2, fun w hw => hm w (by simp [hw]), by simp at hln ⊢; omega, is ++ [i], by simp⟩
        · subst ei
          have intsM : ∀ is : List Int, intsOf (is.map D.int) = some is := by
            intro is
            induction is with
            | nil => rfl
            | cons i is ih => rw [List.map_cons, intsOf, ih]; rfl
          refine Sat.fSum (intsM is) ?_
          repeat walk_at "pi"
          exact ⟨xh, _, rfl⟩
    | non => repeat walk_at "pi"
             exact ⟨Ext.refl _, _, rfl⟩
    | bl b => repeat walk_at "pi"
              exact ⟨Ext.refl _, _, rfl⟩
    | int i => repeat walk_at "pi"
               exact ⟨Ext.refl _, _, rfl⟩
    | str s => repeat walk_at "pi"
               exact ⟨Ext.refl _, _, rfl⟩
    | _ => simp [D.flat] at hx
/-! ### the first row -/
section
variable {n : Nat} {k0 : Kd} {h : Hh} {num : Nat → Int}
theorem first_ok (ok : k0.Ok n) (cl : k0.Cl num n) (h77 : ∀ i, num i ≠ 77) {R M : Nat} (hRM : M < h.length) (hm : numsAt num M h) {rows : List Pt} (hR : h[R]? = some (.lst (rows.map Pt.enc))) (hl : rows.length ≤ 12) (hr : ∀ p ∈ rows, RowG n k0 p) {v : Vq} (hv : HasV num n k0 v) :
    Sat (sem T 228 16 [.ref R, v.enc, .ref M] h) fun r h' => Ext h h' ∧ match firstF num v 0 rows with
      | none => r = .non
      | some (k, p) => p ∈ rows ∧ ∃ q, r = .tup [.int (k : Nat), .ref q] ∧ h'[q]? = some (.lst (fitQ (numX num) p v).1) := by
  refine sat__law_first (f := 227) ?_
  unfold b__law_first
  repeat walk_at "pi"
  refine Sat.lenL hR ?_
  repeat walk_at "pi"
  rw [List.length_map]
  refine ⟨⟨by omega, by omega⟩, ?_⟩
  have elen : ((rows.length : Nat) : Int).toNat = rows.length := by omega
  rw [elen]
  refine Sat.forIx (fun i e h' => Ext h h' ∧ ∃ (don rest : List Pt) (v3 v4 : Option D), don.length = i ∧ rows = don ++ rest ∧ (∀ q ∈ don, (fitQ (numX num) q v).2 = false) ∧ e = [some (.ref R), some v.enc, some (.ref M), v3, v4])
    ⟨Ext.refl _, [], rows, _, _, rfl, rfl, by simp, rfl⟩ (fun _ _ _ _ => rfl) (fun i d e h' hd ⟨xh, don, rest, v3, v4, ei, er, hdn, ee⟩ => ?_) fun e h' ⟨xh, don, rest, v3, v4, ei, er, hdn, ee⟩ => ?_
  · subst ee
    obtain ⟨hi, rfl⟩ := rng_at hd
    have hi : i < rows.length := by simpa using hi
    cases rest with
    | nil =>
      rw [List.append_nil] at er
      rw [er] at hi
      omega
    | cons p rest =>
      have hpm : p ∈ rows := by rw [er]; simp
      have gp := hr p hpm
      have hat : (rows.map Pt.enc)[i]? = some p.enc := by rw [er, ← ei]; simp
      repeat walk_at "pi"
      rw [Int.zero_add]
      refine Sat.ixL (Ext.push.at (xh.at hR)) (atIx_nat hat) ?_
      repeat walk_at "pi"
      have lm : M < h'.length := Nat.lt_of_lt_of_le hRM xh.1
      refine (fit_ok hP h77 (M := M) (N := h'.length) (by omega) 27 197 n gp.dep gp.hp hv ok cl (Ext.push.at (xh.at hm)) at_push (by have := gp.nb; simp; omega)).mono fun r h2 ⟨b2, e2, er2⟩ => ?_
      subst er2
      rw [List.nil_append] at e2
      have x2 : Ext h' h2 := ⟨Nat.le_trans (by simp) b2.1, fun j hj => by
        rw [b2.2 j (by simp; omega) (by omega)]
        exact List.getElem?_append_left hj⟩
      cases hf : (fitQ (numX num) p v).2 with
      | true =>
        repeat walk_at "pi"
        have e1 : firstF num v 0 rows = some (don.length, p) := by
          rw [er, firstF_skip 0 don _ hdn, firstF, if_pos hf, Nat.zero_add]
        rw [e1]
        subst ei
        exact ⟨xh.trans x2, hpm, _, rfl, e2⟩
      | false =>
        repeat walk_at "pi"
        subst ei
        refine ⟨xh.trans x2, don ++ [p], rest, _, _, by simp, by rw [er]; simp, fun q hq => ?_, rfl⟩
        rcases List.mem_append.mp hq with z | z
        · exact hdn q z
        · rw [List.mem_singleton.mp z]
          exact hf
  · subst ee
    rw [rng_len] at ei
    have er0 : rest = [] := by
      have := congrArg List.length er
      simp at this
      cases rest with
      | nil => rfl
      | cons _ _ => simp at this; omega
    subst er0
    rw [List.append_nil] at er
    subst er
    repeat walk_at "pi"
    have := firstF_skip (num := num) (v := v) 0 rows [] hdn
    rw [List.append_nil] at this
    rw [this]
    exact ⟨xh, rfl⟩
end
end K41
/-! ## LawG_K41 -/
set_option Elab.async false
set_option linter.all false
set_option maxRecDepth 100000
set_option maxHeartbeats 4000000
set_option autoImplicit false
/-! K41: places, leaves, tests, parts. -/
namespace K41
open PI
local macro_rules | `(tactic| walk_at "pi") => `(tactic| (
  first
  | (with_reducible refine PI.red ?_)
  | ((with_reducible show PI.Sat (PI.dVar _ _ _) _); refine Sat.var rfl ?_)
  | ((with_reducible show PI.Sat (PI.sAug _ _ _ _ _) _); refine Sat.aug rfl ?_)
  | ((with_reducible show PI.npK _ _ _); refine npK.mk rfl ?_)
  | ((with_reducible show PI.szK _ _); refine szK.mk (by simp only [List.length_cons, List.length_nil]; decide) ?_)
  | ((with_reducible show PI.isaK _ _ _ _); refine isaK.mk rfl ?_)
  | ((with_reducible show PI.ifK _ _ _); first | (refine ifK.t (by rfl) ?_) | (refine ifK.f (by rfl) ?_))
  | ((with_reducible show PI.Sat (PI.gTp _ _ _ _ _) _); refine Sat.gTp rfl ?_)
  | ((with_reducible show PI.Sat (PI.cIsB _ _ _) _); refine Sat.isB rfl ?_)
  | ((with_reducible show PI.Sat (PI.cNotB _ _ _) _); refine Sat.notB rfl ?_)
  | ((with_reducible show PI.Sat (PI.cIn _ (PI.D.tup _) _) _); refine Sat.inT rfl ?_)
  | ((with_reducible show PI.Sat (PI.cNin _ (PI.D.tup _) _) _); refine Sat.ninT rfl ?_)
  | ((with_reducible show PI.Sat (PI.cIsN _ _) _); refine Sat.isN rfl ?_)
  | ((with_reducible show PI.Sat (PI.cNotN _ _) _); refine Sat.notN rfl ?_)
  | ((with_reducible show PI.Sat (PI.oPow _ _ _) _); refine Sat.powI (by decide) ?_)))
section
variable {h : Hh}
theorem eqIS {i : Int} {s : List Nat} {Q : D → Hh → Prop} (q : Q (.bl false) h) : Sat (cEq (.int i) (.str s) h) Q := .of (a := .bl false) rfl q
theorem place_ok {f : Nat} {pl : List Hop} (hl : pl.length ≤ 1000) : Sat (sem T (f + 1) 13 [plD pl] h) fun r h' => h' = h ∧ r = .bl true := by
  refine sat__law_is_place ?_
  unfold b__law_is_place plD
  repeat walk_at "pi"
  refine Sat.compIx (fun c acc h' => h' = h ∧ acc = (List.replicate c true).map .bl) ⟨rfl, rfl⟩ (fun _ _ _ _ => rfl) (fun c d acc h' hd ⟨eh, ea⟩ => ?_) fun acc h' ⟨eh, ea⟩ => ?_
  · subst eh ea
    rw [Wk.items, List.getElem?_map] at hd
    cases gp : pl[c]? with
    | none => rw [gp] at hd; cases hd
    | some o =>
      rw [gp] at hd
      cases hd
      have hc := (List.getElem?_eq_some_iff.mp gp).1
      have fin : ((List.replicate c true).map D.bl).length < SL ∧ h' = h' ∧ (List.replicate c true).map D.bl ++ [.bl true] = (List.replicate (c + 1) true).map .bl := ⟨by simp; unfold SL; omega, rfl, by simp [List.replicate_succ']⟩
      cases o with
      | ix i =>
        simp only [Hop.enc]
        repeat walk_at "pi"
        refine eqIS ?_
        repeat walk_at "pi"
        exact fin
      | arg =>
        simp only [Hop.enc]
        repeat walk_at "pi"
        exact fin
  · subst eh ea
    refine Sat.fAll (blsOf_map _) ?_
    repeat walk_at "pi"
    exact ⟨rfl, by simp⟩
theorem bndsL_pl : ∀ (ps : List Pt) (pl : List Hop) (i m : Nat), (∀ p ∈ ps, ∀ pl : List Hop, ∀ b ∈ bnds p pl, b.2.length ≤ pl.length + m) → ∀ b ∈ bndsL ps pl i, b.2.length ≤ pl.length + 1 + m
  | [], _, _, _, _, b, h => by simp [bndsL] at h
  | p :: ps, pl, i, m, hp, b, h => by
    rw [bndsL] at h
    rcases List.mem_append.mp h with z | z
    · have := hp p (by simp) _ b z
      simpa using this
    · exact bndsL_pl ps pl (i + 1) m (fun q hq => hp q (by simp [hq])) b z
theorem bnds_pl {n : Nat} {k : Kd} {p : Pt} (hp : HasP n k p) : ∀ pl : List Hop, ∀ b ∈ bnds p pl, b.2.length ≤ pl.length + n ∧ b.1.all (· < 0x110000) = true := by
  induction hp with
  | any => intro pl b h; simp [bnds] at h
  | @var n k s hs =>
    intro pl b h
    rw [bnds, List.mem_singleton] at h
    subst h
    exact ⟨Nat.le_add_right _ _, hs⟩
  | @as n k p s hp hs ih =>
    intro pl b h
    rw [bnds] at h
    rcases List.mem_cons.mp h with rfl | h
    · exact ⟨Nat.le_add_right _ _, hs⟩
    · exact ih pl b h
  | int => intro pl b h; simp [bnds] at h
  | @tup n ks ps hl hp ih =>
    intro pl b h
    rw [bnds] at h
    have each : ∀ p ∈ ps, ∀ pl : List Hop, ∀ b ∈ bnds p pl, b.2.length ≤ pl.length + n ∧ b.1.all (· < 0x110000) = true := fun p hp' => by
      obtain ⟨i, hi, ei⟩ := List.mem_iff_getElem.mp hp'
      have gp := List.getElem?_eq_getElem hi
      rw [ei] at gp
      exact ih i _ _ (List.getElem?_eq_getElem (l := ks) (i := i) (by omega)) gp
    refine ⟨?_, ?_⟩
    · have := bndsL_pl ps pl 0 n (fun p hp pl b hb => (each p hp pl b hb).1) b h
      omega
    · have go : ∀ (ps : List Pt) (i : Nat), (∀ p ∈ ps, ∀ pl : List Hop, ∀ b ∈ bnds p pl, b.2.length ≤ pl.length + n ∧ b.1.all (· < 0x110000) = true) → ∀ b ∈ bndsL ps pl i, b.1.all (· < 0x110000) = true := by
        intro ps
        induction ps with
        | nil => intro i _ b h; simp [bndsL] at h
        | cons p ps ihp =>
          intro i a b h
          rw [bndsL] at h
          rcases List.mem_append.mp h with z | z
          · exact (a p (by simp) _ b z).2
          · exact ihp (i + 1) (fun q hq => a q (by simp [hq])) b z
      exact go ps 0 each b h
  | pkt0 => intro pl b h; simp [bnds] at h
  | @pkt1 n i ks k p e hk hp ih =>
    intro pl b h
    rw [bnds] at h
    have := ih (pl ++ [.arg]) b h
    simp at this ⊢
    exact ⟨by omega, this.2⟩
  | con0 => intro pl b h; simp [bnds] at h
  | @con1 n a fam ks k p e hk hp ih =>
    intro pl b h
    rw [bnds] at h
    have := ih (pl ++ [.arg]) b h
    simp at this ⊢
    exact ⟨by omega, this.2⟩
theorem tsts_pl {n : Nat} {k : Kd} {p : Pt} (hp : HasP n k p) : ∀ pl : List Hop, ∀ t ∈ tsts p pl, t.pl.length ≤ pl.length + n := by
  induction hp with
  | any => intro pl b h; simp [tsts] at h
  | var => intro pl b h; simp [tsts] at h
  | as hp ih => intro pl b h; exact ih pl b h
  | int =>
    intro pl b h
    rw [tsts, List.mem_singleton] at h
    subst h
    exact Nat.le_add_right _ _
  | @tup n ks ps hl hp ih =>
    intro pl b h
    rw [tsts] at h
    have each : ∀ p ∈ ps, ∀ pl : List Hop, ∀ t ∈ tsts p pl, t.pl.length ≤ pl.length + n := fun p hp' => by
      obtain ⟨i, hi, ei⟩ := List.mem_iff_getElem.mp hp'
      have gp := List.getElem?_eq_getElem hi
      rw [ei] at gp
      exact ih i _ _ (List.getElem?_eq_getElem (l := ks) (i := i) (by omega)) gp
    have go : ∀ (ps : List Pt) (i : Nat), (∀ p ∈ ps, ∀ pl : List Hop, ∀ t ∈ tsts p pl, t.pl.length ≤ pl.length + n) → ∀ b ∈ tstsL ps pl i, b.pl.length ≤ pl.length + (n + 1) := by
      intro ps
      induction ps with
      | nil => intro i _ b h; simp [tstsL] at h
      | cons p ps ihp =>
        intro i a b h
        rw [tstsL] at h
        rcases List.mem_append.mp h with z | z
        · have := a p (by simp) _ b z
          simp at this
          omega
        · exact ihp (i + 1) (fun q hq => a q (by simp [hq])) b z
    exact go ps 0 each b h
  | pkt0 =>
    intro pl b h
    simp [tsts] at h
    subst h
    exact Nat.le_add_right _ _
  | @pkt1 n i ks k p e hk hp ih =>
    intro pl b h
    rw [tsts] at h
    rcases List.mem_cons.mp h with rfl | h
    · exact Nat.le_add_right _ _
    · have := ih (pl ++ [.arg]) b h
      simp at this
      omega
  | con0 =>
    intro pl b h
    simp [tsts] at h
    subst h
    exact Nat.le_add_right _ _
  | @con1 n a fam ks k p e hk hp ih =>
    intro pl b h
    rw [tsts] at h
    rcases List.mem_cons.mp h with rfl | h
    · exact Nat.le_add_right _ _
    · have := ih (pl ++ [.arg]) b h
      simp at this
      omega
theorem leaf_ok {f n k R : Nat} {kd : Kd} {p : Pt} {xs : List D} (hR : h[R]? = some (.lst xs)) (hk : k < xs.length) (hp : HasP n kd p) (hn : n ≤ 3) (hnb : p.nb ≤ 2000) : Sat (sem T (f + 2) 14 [leafD k p, .ref R] h) fun r h' => h' = h ∧ r = .bl true := by
  refine sat__law_is_leaf ?_
  unfold b__law_is_leaf leafD
  repeat walk_at "pi"
  refine Sat.lenL hR ?_
  repeat walk_at "pi"
  refine ifK.t (decide_eq_true (by omega)) ?_
  repeat walk_at "pi"
  refine Sat.forIx (fun c e h' => h' = h ∧ ∃ v2, e = [some (.tup [.str s_leaf, .int (k : Nat), .tup ((bnds p []).map bndD)]), some (.ref R), v2]) ⟨rfl, _, rfl⟩ (fun _ _ _ _ => rfl) (fun c d e h' hd ⟨eh, v2, ee⟩ => ?_) fun e h' ⟨eh, v2, ee⟩ => ?_
  · subst eh ee
    rw [Wk.items, List.getElem?_map] at hd
    cases gp : (bnds p [])[c]? with
    | none => rw [gp] at hd; cases hd
    | some b =>
      rw [gp] at hd
      cases hd
      have hb := bnds_pl hp [] b (List.mem_of_getElem? gp)
      have hb1 := hb.1
      simp at hb1
      unfold bndD
      repeat walk_at "pi"
      refine (place_ok (f := f) (by omega)).mono fun r h2 ⟨eh, er⟩ => ?_
      subst eh er
      repeat walk_at "pi"
      exact ⟨rfl, _, rfl⟩
  · subst eh ee
    repeat walk_at "pi"
    exact ⟨rfl, rfl⟩
theorem path_in {i : Nat} (hi : i < 3) {n : Nat} (e : h[n]? = some (.lst [pathD 0, pathD 1, pathD 2])) {Q : D → Hh → Prop} (q : Q (.bl true) h) : Sat (cIn (pathD i) (.ref n) h) Q := by
  have : inR h (pathD i) (.ref n) = some true := by
    have : i = 0 ∨ i = 1 ∨ i = 2 := by omega
    rcases this with rfl | rfl | rfl <;> (simp only [inR, listOf, lstAt, e]; decide)
  simp only [cIn, this]
  exact .ok q
theorem test_ok {f a m x y : Nat} {t : Tst} (hk : KdOk t) (hl : t.pl.length ≤ 1000) (hx : a + 1 ≤ x ∧ x < m) (hy : a + 1 ≤ y ∧ y < m) : Sat (sem T (f + 2) 15 [.tup [.str t.kd, plD t.pl, t.key.enc, .int (x : Nat), .int (y : Nat)], .int (a : Nat), .int (m : Nat)] h) fun r h' => Ext h h' ∧ r = .bl true := by
  refine sat__law_is_test ?_
  unfold b__law_is_test
  repeat walk_at "pi"
  refine ifK.t (decide_eq_true (by omega)) ?_
  repeat walk_at "pi"
  refine ifK.t (decide_eq_true (by omega)) ?_
  repeat walk_at "pi"
  rcases hk with ⟨e1, i, e2, hi⟩ | ⟨e1, i, e2⟩
  · rw [e1, e2]
    repeat walk_at "pi"
    refine (paths_ok hP (f := f)).mono fun r h2 ⟨er, eh⟩ => ?_
    subst er eh
    refine path_in hi at_push ?_
    repeat walk_at "pi"
    refine (place_ok (f := f) hl).mono fun r h2 ⟨eh, er⟩ => ?_
    subst eh er
    repeat walk_at "pi"
    exact ⟨Ext.push, rfl⟩
  · have : decide (t.kd = s_exception) = false := by rcases e1 with e1 | e1 <;> rw [e1] <;> decide
    rw [this, e2]
    repeat walk_at "pi"
    refine (place_ok (f := f) hl).mono fun r h2 ⟨eh, er⟩ => ?_
    subst eh er
    repeat walk_at "pi"
    exact ⟨Ext.refl _, rfl⟩
theorem hop_inv {y z : D} {s : Hop} (hh : hop1 y s = some z) : (s = .arg ∧ ∃ t a b, y = .tup [.str t, a, b, z] ∧ (t = s_con ∨ t = s_packet) ∧ isN z = some false) ∨ ∃ i ys, s = .ix i ∧ y = .tup [.str s_tuple, .tup ys] ∧ ys[i]? = some z := by
  unfold hop1 at hh
  split at hh
  · split at hh
    · rename_i c
      rw [Bool.and_eq_true, Bool.or_eq_true, decide_eq_true_eq, decide_eq_true_eq, decide_eq_true_eq] at c
      cases hh
      exact .inl ⟨rfl, _, _, _, rfl, c.1, c.2⟩
    · cases hh
  · split at hh
    · rename_i c
      subst c
      exact .inr ⟨_, _, rfl, rfl, hh⟩
    · cases hh
  · cases hh
theorem part_ok {f : Nat} {d x : D} {pl : List Hop} (hp : partD d pl = some x) : Sat (sem T (f + 1) 19 [d, plD pl] h) fun r h' => h' = h ∧ r = x := by
  refine sat__law_part_at ?_
  unfold b__law_part_at plD
  repeat walk_at "pi"
  refine Sat.forGo (fun ds e h' => h' = h ∧ ∃ (rest : List Hop) (y : D) (v2 : Option D), ds = rest.map Hop.enc ∧ partD y rest = some x ∧ e = [some y, some (.tup (pl.map Hop.enc)), v2]) ⟨rfl, pl, d, _, rfl, hp, rfl⟩ (fun _ _ _ _ => rfl) (fun o ds e h' ⟨eh, rest, y, v2, ed, ep, ee⟩ => ?_) fun e h' ⟨eh, rest, y, v2, ed, ep, ee⟩ => ?_
  · subst eh ee
    cases rest with
    | nil => cases ed
    | cons s rest =>
      obtain ⟨rfl, rfl⟩ := List.cons.inj ed
      rw [partD] at ep
      cases hh : hop1 y s with
      | none => rw [hh] at ep; cases ep
      | some z =>
        rw [hh] at ep
        rcases hop_inv hh with ⟨rfl, t, a, b, rfl, c1, c2⟩ | ⟨i, ys, rfl, rfl, hi⟩
        · simp only [Hop.enc]
          rcases c1 with rfl | rfl
          · repeat walk_at "pi"
            refine Sat.isN c2 ?_
            repeat walk_at "pi"
            exact ⟨rfl, rest, z, _, rfl, ep, rfl⟩
          · repeat walk_at "pi"
            refine Sat.isN c2 ?_
            repeat walk_at "pi"
            exact ⟨rfl, rest, z, _, rfl, ep, rfl⟩
        · simp only [Hop.enc]
          repeat walk_at "pi"
          refine eqIS ?_
          repeat walk_at "pi"
          have hi2 := (List.getElem?_eq_some_iff.mp hi).1
          refine ifK.t (decide_eq_true (by omega)) ?_
          repeat walk_at "pi"
          refine Sat.ixT (atIx_nat hi) ?_
          repeat walk_at "pi"
          exact ⟨rfl, rest, z, _, rfl, ep, rfl⟩
  · subst eh ee
    cases rest with
    | cons _ _ => cases ed
    | nil =>
      cases ep
      repeat walk_at "pi"
      exact ⟨rfl, rfl⟩
end
end K41
/-! ## LawH_K41 -/
set_option Elab.async false
set_option linter.all false
set_option maxRecDepth 100000
set_option maxHeartbeats 4000000
set_option autoImplicit false
/-! K41: the number of tests. -/
namespace K41
open PI
local macro_rules | `(tactic| walk_at "pi") => `(tactic| (
  first
  | (with_reducible refine PI.red ?_)
  | ((with_reducible show PI.Sat (PI.dVar _ _ _) _); refine Sat.var rfl ?_)
  | ((with_reducible show PI.Sat (PI.sAug _ _ _ _ _) _); refine Sat.aug rfl ?_)
  | ((with_reducible show PI.npK _ _ _); refine npK.mk rfl ?_)
  | ((with_reducible show PI.szK _ _); refine szK.mk (by simp only [List.length_cons, List.length_nil]; decide) ?_)
  | ((with_reducible show PI.isaK _ _ _ _); refine isaK.mk rfl ?_)
  | ((with_reducible show PI.ifK _ _ _); first | (refine ifK.t (by rfl) ?_) | (refine ifK.f (by rfl) ?_))
  | ((with_reducible show PI.Sat (PI.gTp _ _ _ _ _) _); refine Sat.gTp rfl ?_)
  | ((with_reducible show PI.Sat (PI.cIsB _ _ _) _); refine Sat.isB rfl ?_)
  | ((with_reducible show PI.Sat (PI.cNotB _ _ _) _); refine Sat.notB rfl ?_)
  | ((with_reducible show PI.Sat (PI.cIn _ (PI.D.tup _) _) _); refine Sat.inT rfl ?_)
  | ((with_reducible show PI.Sat (PI.cNin _ (PI.D.tup _) _) _); refine Sat.ninT rfl ?_)
  | ((with_reducible show PI.Sat (PI.cIsN _ _) _); refine Sat.isN rfl ?_)
  | ((with_reducible show PI.Sat (PI.cNotN _ _) _); refine Sat.notN rfl ?_)
  | ((with_reducible show PI.Sat (PI.oPow _ _ _) _); refine Sat.powI (by decide) ?_)))
mutual
/-- nodes of a pattern -/
def psz : Pt → Nat
  | .nil => 0
  | .as _ p => psz p + 1
  | .tup ps => pszL ps + 1
  | .pkt _ p => psz p + 1
  | .con _ _ p => psz p + 1
  | _ => 1
def pszL : List Pt → Nat
  | [] => 0
  | p :: ps => psz p + pszL ps
end
mutual
/-- tests of a pattern -/
def ntp : Pt → Nat
  | .as _ p => ntp p
  | .int _ => 1
  | .tup ps => ntpL ps
  | .pkt _ p => ntp p + 1
  | .con _ _ p => ntp p + 1
  | _ => 0
def ntpL : List Pt → Nat
  | [] => 0
  | p :: ps => ntp p + ntpL ps
end
mutual
theorem tsts_ntp : ∀ (p : Pt) (pl : List Hop), (tsts p pl).length = ntp p
  | .nil, _ => rfl
  | .any, _ => rfl
  | .var _, _ => rfl
  | .as _ p, pl => tsts_ntp p pl
  | .int _, _ => rfl
  | .tup ps, pl => tstsL_ntp ps pl 0
  | .pkt _ p, pl => by rw [tsts, ntp, List.length_cons, tsts_ntp p]
  | .con _ _ p, pl => by rw [tsts, ntp, List.length_cons, tsts_ntp p]
theorem tstsL_ntp : ∀ (ps : List Pt) (pl : List Hop) (i : Nat), (tstsL ps pl i).length = ntpL ps
  | [], _, _ => rfl
  | p :: ps, pl, i => by rw [tstsL, ntpL, List.length_append, tsts_ntp p, tstsL_ntp ps]
end
theorem ntpL_app (a b : List Pt) : ntpL (a ++ b) = ntpL a + ntpL b := by
  induction a with
  | nil => simp [ntpL]
  | cons p a ih => rw [List.cons_append, ntpL, ntpL, ih]; omega
theorem pszL_app (a b : List Pt) : pszL (a ++ b) = pszL a + pszL b := by
  induction a with
  | nil => simp [pszL]
  | cons p a ih => rw [List.cons_append, pszL, pszL, ih]; omega
theorem psz_pos {n : Nat} {k : Kd} {p : Pt} (h : HasP n k p) : 1 ≤ psz p := by cases h <;> simp [psz]
theorem psz_le {n : Nat} {k : Kd} {p : Pt} (hp : HasP n k p) : k.Ok n → psz p ≤ tn n + p.nb := by
  induction hp with
  | any => intro _; have := tn_pos; simp [psz, Pt.nb]; exact this _
  | var => intro _; simp [psz, Pt.nb]
  | as _ ih => intro ok; have := ih ok; simp only [psz, Pt.nb]; omega
  | int => intro _; have := tn_pos; simp [psz, Pt.nb]; exact this _
  | @tup n ks ps hl hp ih =>
    intro ok
    have each : ∀ p ∈ ps, psz p ≤ tn n + p.nb := fun p hp' => by
      obtain ⟨i, hi, ei⟩ := List.mem_iff_getElem.mp hp'
      have gp := List.getElem?_eq_getElem hi
      rw [ei] at gp
      have gk := List.getElem?_eq_getElem (l := ks) (i := i) (by omega)
      exact ih i _ _ gk gp (ok.2.2 _ (List.mem_of_getElem? gk))
    have go : ∀ ps : List Pt, (∀ p ∈ ps, psz p ≤ tn n + p.nb) → pszL ps ≤ ps.length * tn n + Pt.nbL ps := by
      intro ps
      induction ps with
      | nil => intro _; simp [pszL]
      | cons p ps ihp =>
        intro a
        have h1 := a p (by simp)
        have h2 := ihp fun q hq => a q (by simp [hq])
        simp only [pszL, Pt.nbL, List.length_cons, Nat.succ_mul]
        omega
    have h1 := go ps each
    have h2 : ps.length * tn n ≤ 6 * tn n := Nat.mul_le_mul_right _ (by have := ok.1; omega)
    simp only [psz, Pt.nb, tn]
    omega
  | pkt0 => intro _; simp [psz, Pt.nb, tn]
  | @pkt1 n i ks k p e hk hp ih =>
    intro ok
    have := ih ((ksub ok.2 e).resolve_left hk)
    have := tn_pos n
    simp only [psz, Pt.nb, tn]
    omega
  | con0 => intro _; simp [psz, Pt.nb, tn]
  | @con1 n a fam ks k p e hk hp ih =>
    intro ok
    have := ih ((ksub ok.2.2.2.2 e).resolve_left hk)
    have := tn_pos n
    simp only [psz, Pt.nb, tn]
    omega
/-- a pattern of some kind -/
def Pk (p : Pt) : Prop := ∃ n k, HasP n k p
theorem Pk.ne {p : Pt} (h : Pk p) : p.isNil = false := by
  obtain ⟨n, k, h⟩ := h
  exact hasP_ne h
theorem pk_len {qs : List Pt} (h : ∀ q ∈ qs, Pk q) : qs.length ≤ pszL qs := by
  induction qs with
  | nil => exact Nat.zero_le _
  | cons q qs ih =>
    obtain ⟨n, k, hq⟩ := h q (by simp)
    have := psz_pos hq
    have := ih fun r hr => h r (by simp [hr])
    rw [pszL, List.length_cons]
    omega
section
variable {h : Hh}
theorem tests_ok {f n : Nat} {k : Kd} {p : Pt} (hp : HasP n k p) (ok : k.Ok n) (hn : n ≤ 3) (hnb : p.nb ≤ 2000) : Sat (sem T (f + 1) 18 [p.enc] h) fun r h' => Ext h h' ∧ r = .int (ntp p : Nat) := by
  have hz : psz p ≤ 2400 := by have := psz_le hp ok; have := tn_le hn; omega
  refine sat__law_tests ?_
  unfold b__law_tests
  repeat walk_at "pi"
  obtain ⟨N, hN⟩ : ∃ N, N = h.length := ⟨_, rfl⟩
  rw [← hN]
  refine Sat.whGo (fun m e h' => Ext h h' ∧ ∃ (qs : List Pt) (c : Nat) (v3 : Option D), pszL qs = m ∧ m ≤ 2400 ∧ (∀ q ∈ qs, Pk q) ∧ h'[N]? = some (.lst (qs.map Pt.enc)) ∧ c + ntpL qs = ntp p ∧ e = [some p.enc, some (.ref N), some (.int (c : Nat)), v3]) (psz p)
    ⟨Ext.push, [p], 0, _, by simp [pszL], hz, fun q hq => by rw [List.mem_singleton.mp hq]; exact ⟨n, k, hp⟩, by rw [hN]; exact at_push, by simp [ntpL], rfl⟩ (fun m e h' ⟨xh, qs, c, v3, em, hm, hq, eN, ec, ee⟩ => ?_) (by unfold WF; omega)
  subst ee
  repeat walk_at "pi"
  refine Sat.lenL eN ?_
  repeat walk_at "pi"
  rw [List.length_map]
  refine ifK.d (fun c0 => ?_) fun c0 => ?_
  · rcases List.eq_nil_or_concat qs with rfl | ⟨ys, q, rfl⟩
    · simp at c0
    rw [List.concat_eq_append] at *
    have lq := pk_len hq
    rw [pszL_app, pszL, pszL, Nat.add_zero] at em
    rw [ntpL_app, ntpL, ntpL, Nat.add_zero] at ec
    simp at lq
    have eN' : h'[N]? = some (.lst (ys.map Pt.enc ++ [q.enc])) := by rw [eN]; simp
    have hy : ∀ q ∈ ys, Pk q := fun r hr => hq r (by simp [hr])
    obtain ⟨n1, k1, hq1⟩ := hq q (by simp)
    have ly := pk_len hy
    have xN : ∀ {o : Ob}, Ext h (h'.set N o) := fun {o} => xh.set (by omega)
    have eN1 := at_set (o := Ob.lst (ys.map Pt.enc)) eN
    repeat walk_at "pi"
    refine lsK.mk eN' ?_
    repeat walk_at "pi"
    refine Sat.pop eN' ?_
    have x1 := xN (o := Ob.lst (ys.map Pt.enc))
    clear xN eN eN'
    revert eN1 x1
    generalize h'.set N (Ob.lst (ys.map Pt.enc)) = h1
    intro eN1 x1
    have one : ∀ (r : Pt) (c' : Nat), Pk r → psz r < psz q → c' + ntp r = c + ntp q → ∃ m', m' < m ∧ Ext h (h1.set N (.lst (ys.map Pt.enc ++ [r.enc]))) ∧ ∃ (qs : List Pt) (c'' : Nat) (v3 : Option D), pszL qs = m' ∧ m' ≤ 2400 ∧ (∀ q ∈ qs, Pk q) ∧ (h1.set N (.lst (ys.map Pt.enc ++ [r.enc])))[N]? = some (.lst (qs.map Pt.enc)) ∧ c'' + ntpL qs = ntp p ∧ [some p.enc, some (.ref N), some (.int (c' : Nat)), some q.enc] = [some p.enc, some (.ref N), some (.int (c'' : Nat)), v3] := fun r c' hr hs hc => ⟨pszL ys + psz r, by omega, x1.set (by omega), ys ++ [r], c', _, by rw [pszL_app, pszL, pszL, Nat.add_zero], by omega, fun q hq => by
      rcases List.mem_append.mp hq with z | z
      · exact hy q z
      · rw [List.mem_singleton.mp z]; exact hr, by rw [at_set eN1]; simp, by rw [ntpL_app, ntpL, ntpL, Nat.add_zero]; omega, rfl⟩
    have none_ : ∀ (c' : Nat), c' = c + ntp q → ∃ m', m' < m ∧ Ext h h1 ∧ ∃ (qs : List Pt) (c'' : Nat) (v3 : Option D), pszL qs = m' ∧ m' ≤ 2400 ∧ (∀ q ∈ qs, Pk q) ∧ h1[N]? = some (.lst (qs.map Pt.enc)) ∧ c'' + ntpL qs = ntp p ∧ [some p.enc, some (.ref N), some (.int (c' : Nat)), some q.enc] = [some p.enc, some (.ref N), some (.int (c'' : Nat)), v3] := fun c' hc => ⟨pszL ys, by have := psz_pos hq1; omega, x1, ys, c', _, rfl, by omega, hy, eN1, by omega, rfl⟩
    have hNl : h.length ≤ N := by omega
    clear c0 hq hp hz hN xh
    cases hq1 with
    | any =>
      simp only [Pt.enc]
      repeat walk_at "pi"
      exact none_ c (by simp [ntp])
    | var =>
      simp only [Pt.enc]
      repeat walk_at "pi"
      exact none_ c (by simp [ntp])
    | @as _ _ r s hr =>
      simp only [Pt.enc]
      repeat walk_at "pi"
      refine lsK.mk eN1 ?_
      repeat walk_at "pi"
      refine Sat.append eN1 (by simp; unfold SL; omega) ?_
      repeat walk_at "pi"
      exact one r c ⟨_, _, hr⟩ (by simp [psz]) (by simp [ntp])
    | @int _ i =>
      simp only [Pt.enc]
      repeat walk_at "pi"
      refine Sat.iaddJ ?_
      rw [show ((c : Nat) : Int) + 1 = ((c + 1 : Nat) : Int) by omega]
      repeat walk_at "pi"
      exact none_ (c + 1) (by simp [ntp])
    | @tup n2 ks ps hl hps =>
      simp only [Pt.enc]
      repeat walk_at "pi"
      refine lsK.mk eN1 ?_
      repeat walk_at "pi"
      have hpk : ∀ r ∈ ps, Pk r := fun r hr => by
        obtain ⟨i, hi, ei⟩ := List.mem_iff_getElem.mp hr
        have gp := List.getElem?_eq_getElem hi
        rw [ei] at gp
        exact ⟨_, _, hps i _ _ (List.getElem?_eq_getElem (l := ks) (i := i) (by omega)) gp⟩
      have lps := pk_len hpk
      simp only [psz] at em
      refine Sat.extend (Ext.push.at eN1) at_push (by rw [pencL]; simp; unfold SL; omega) ?_
      repeat walk_at "pi"
      refine ⟨pszL ys + pszL ps, by omega, (x1.trans Ext.push).set hNl, ys ++ ps, c, _, pszL_app _ _, by omega, fun q hq => ?_, by rw [at_set (Ext.push.at eN1), pencL]; simp, by rw [ntpL_app]; simp only [ntp] at ec; omega, rfl⟩
      rcases List.mem_append.mp hq with z | z
      · exact hy q z
      · exact hpk q z
    | @pkt0 n2 i ks e =>
      simp only [Pt.enc]
      repeat walk_at "pi"
      refine Sat.iaddJ ?_
      rw [show ((c : Nat) : Int) + 1 = ((c + 1 : Nat) : Int) by omega]
      repeat walk_at "pi"
      exact none_ (c + 1) (by simp [ntp])
    | @pkt1 n2 i ks k2 r e hk hr =>
      simp only [Pt.enc]
      repeat walk_at "pi"
      refine Sat.iaddJ ?_
      rw [show ((c : Nat) : Int) + 1 = ((c + 1 : Nat) : Int) by omega]
      repeat walk_at "pi"
      refine Sat.notN (isN_p _) ?_
      rw [hasP_ne hr]
      repeat walk_at "pi"
      refine lsK.mk eN1 ?_
      repeat walk_at "pi"
      refine Sat.append eN1 (by simp; unfold SL; omega) ?_
      repeat walk_at "pi"
      exact one r (c + 1) ⟨_, _, hr⟩ (by simp [psz]) (by simp [ntp]; omega)
    | @con0 n2 a fam ks e =>
      simp only [Pt.enc]
      repeat walk_at "pi"
      refine Sat.iaddJ ?_
      rw [show ((c : Nat) : Int) + 1 = ((c + 1 : Nat) : Int) by omega]
      repeat walk_at "pi"
      exact none_ (c + 1) (by simp [ntp])
    | @con1 n2 a fam ks k2 r e hk hr =>
      simp only [Pt.enc]
      repeat walk_at "pi"
      refine Sat.iaddJ ?_
      rw [show ((c : Nat) : Int) + 1 = ((c + 1 : Nat) : Int) by omega]
      repeat walk_at "pi"
      refine Sat.notN (isN_p _) ?_
      rw [hasP_ne hr]
      repeat walk_at "pi"
      refine lsK.mk eN1 ?_
      repeat walk_at "pi"
      refine Sat.append eN1 (by simp; unfold SL; omega) ?_
      repeat walk_at "pi"
      exact one r (c + 1) ⟨_, _, hr⟩ (by simp [psz]) (by simp [ntp]; omega)
  · have : qs = [] := by
      cases qs with
      | nil => rfl
      | cons _ _ => simp at c0
    subst this
    simp only [ntpL, Nat.add_zero] at ec
    subst ec
    repeat walk_at "pi"
    exact ⟨xh, rfl⟩
end
end K41
/-! ## LawI_K41 -/
set_option Elab.async false
set_option linter.all false
set_option maxRecDepth 100000
set_option maxHeartbeats 4000000
set_option autoImplicit false
/-! K41: the form of the graph. -/
namespace K41
open PI
local macro_rules | `(tactic| walk_at "pi") => `(tactic| (
  first
  | (with_reducible refine PI.red ?_)
  | ((with_reducible show PI.Sat (PI.dVar _ _ _) _); refine Sat.var rfl ?_)
  | ((with_reducible show PI.Sat (PI.sAug _ _ _ _ _) _); refine Sat.aug rfl ?_)
  | ((with_reducible show PI.npK _ _ _); refine npK.mk rfl ?_)
  | ((with_reducible show PI.szK _ _); refine szK.mk (by simp only [List.length_cons, List.length_nil]; decide) ?_)
  | ((with_reducible show PI.isaK _ _ _ _); refine isaK.mk rfl ?_)
  | ((with_reducible show PI.ifK _ _ _); first | (refine ifK.t (by rfl) ?_) | (refine ifK.f (by rfl) ?_))
  | ((with_reducible show PI.Sat (PI.gTp _ _ _ _ _) _); refine Sat.gTp rfl ?_)
  | ((with_reducible show PI.Sat (PI.cIsB _ _ _) _); refine Sat.isB rfl ?_)
  | ((with_reducible show PI.Sat (PI.cNotB _ _ _) _); refine Sat.notB rfl ?_)
  | ((with_reducible show PI.Sat (PI.cIn _ (PI.D.tup _) _) _); refine Sat.inT rfl ?_)
  | ((with_reducible show PI.Sat (PI.cNin _ (PI.D.tup _) _) _); refine Sat.ninT rfl ?_)
  | ((with_reducible show PI.Sat (PI.cIsN _ _) _); refine Sat.isN rfl ?_)
  | ((with_reducible show PI.Sat (PI.cNotN _ _) _); refine Sat.notN rfl ?_)
  | ((with_reducible show PI.Sat (PI.oPow _ _ _) _); refine Sat.powI (by decide) ?_)))
def tailG (b : Bool) : List D := if b = true then [failD] else []
/-- which rows the graph holds -/
def GrOk (rows rs : List Pt) (b : Bool) : Prop := (b = true ∧ rs = rows ∧ ∀ q ∈ rows, tsts q [] ≠ []) ∨ (b = false ∧ ∃ pre p post, rows = pre ++ p :: post ∧ rs = pre ++ [p] ∧ tsts p [] = [] ∧ ∀ q ∈ pre, tsts q [] ≠ [])
theorem GrOk.pre {rows rs : List Pt} {b : Bool} (h : GrOk rows rs b) : ∃ post, rows = rs ++ post := by
  rcases h with ⟨_, rfl, _⟩ | ⟨_, pre, p, post, rfl, rfl, _⟩
  · exact ⟨[], by simp⟩
  · exact ⟨post, by simp⟩
theorem nt_pos {p : Pt} (h : tsts p [] ≠ []) : 0 < nt p := by
  unfold nt
  cases e : tsts p [] with
  | nil => exact absurd e h
  | cons _ _ => simp
/-- behind a row with tests there is more -/
theorem GrOk.more {rows rs : List Pt} {b : Bool} (h : GrOk rows rs b) {don rest : List Pt} {p : Pt} (e : rs = don ++ p :: rest) (hp : tsts p [] ≠ []) : b = true ∨ rest ≠ [] := by
  rcases h with ⟨rfl, _⟩ | ⟨_, pre, q, post, _, rfl, hq, _⟩
  · exact .inl rfl
  · refine .inr fun z => ?_
    subst z
    have := List.append_inj_right' e rfl
    cases this
    exact hp hq
/-- a row without tests is the last one -/
theorem GrOk.last {rows rs : List Pt} {b : Bool} (h : GrOk rows rs b) {don rest : List Pt} {p : Pt} (e : rs = don ++ p :: rest) (hp : tsts p [] = []) : b = false ∧ rest = [] := by
  rcases h with ⟨_, rfl, a⟩ | ⟨rfl, pre, q, post, _, rfl, hq, a⟩
  · exact absurd hp (a p (by rw [e]; simp))
  · refine ⟨rfl, ?_⟩
    rcases List.eq_nil_or_concat rest with z | ⟨r, x, z⟩
    · exact z
    · rw [List.concat_eq_append] at z
      subst z
      rw [show don ++ p :: (r ++ [x]) = (don ++ p :: r) ++ [x] by simp] at e
      have := (List.append_inj' e rfl).1
      exact absurd hp (a p (by rw [this]; simp))
theorem GrOk.fail {rows rs : List Pt} {b : Bool} (h : GrOk rows rs b) : b = true ∨ ∃ pre p, rs = pre ++ [p] ∧ tsts p [] = [] := by
  rcases h with ⟨rfl, _⟩ | ⟨_, pre, q, post, _, rfl, hq, _⟩
  · exact .inl rfl
  · exact .inr ⟨pre, q, rfl, hq⟩
theorem graph_le {don rest : List Pt} {p : Pt} : (graphN 0 0 (don ++ p :: rest)).length = (graphN 0 0 don).length + (nt p + 1) + (graphN ((graphN 0 0 don).length + nt p + 1) (don.length + 1) rest).length := by
  rw [graphN_app, List.length_append, graphN, List.length_append, rowN_len, Nat.zero_add, Nat.zero_add]
  omega
theorem graph_pos {b k : Nat} {ps : List Pt} (h : ps ≠ []) : 0 < (graphN b k ps).length := by
  cases ps with
  | nil => exact absurd rfl h
  | cons p ps => rw [graphN, List.length_append, rowN_len]; omega
theorem graph_cnt : ∀ (b k : Nat) (ps : List Pt), (graphN b k ps).length = ntpL ps + ps.length
  | _, _, [] => rfl
  | b, k, p :: ps => by
    rw [graphN, List.length_append, rowN_len, graph_cnt, ntpL, List.length_cons]
    unfold nt
    rw [tsts_ntp]
    omega
theorem ninI {h : Hh} {x : Int} {is : List Int} {N : Nat} {Q : D → Hh → Prop} (e : h[N]? = some (.lst (is.map .int))) (hx : x ∈ is) (q : Q (.bl false) h) : Sat (cNin (.int x) (.ref N) h) Q := by
  have a : ∀ is : List Int, (is.map D.int).all D.scal = true := by
    intro is
    induction is with
    | nil => rfl
    | cons i is ih => rw [List.map_cons, List.all_cons, ih]; rfl
  have b : ∀ is : List Int, x ∈ is → anyEq (.int x) (is.map .int) = true := by
    intro is
    induction is with
    | nil => intro h; cases h
    | cons i is ih =>
      intro h
      rw [List.map_cons, anyEq]
      rcases List.mem_cons.mp h with rfl | h
      · simp [D.eqv]
      · rw [ih h, Bool.or_true]
  have : inItems (.int x) (is.map .int) = some true := by
    unfold inItems
    rw [a is, b is hx]
    rfl
  simp only [cNin, inR, listOf, lstAt, e, this]
  exact .ok q
theorem failNe {h : Hh} {Q : D → Hh → Prop} (q : Q (.bl false) h) : Sat (cNe failD (.tup [.str s_fail]) h) Q := .neT (by decide) (by decide) (by
  rw [show D.eqvL [D.str s_fail] [D.str s_fail] = true by decide]
  exact q)
section
variable {h : Hh}
theorem intsOf_mp (is : List Int) : intsOf (is.map D.int) = some is := by
  induction is with
  | nil => rfl
  | cons i is ih => rw [List.map_cons, intsOf, ih]; rfl
theorem sumN : ∀ ps : List Pt, (ps.map fun p => ((ntp p : Nat) : Int)).sum = (ntpL ps : Nat)
  | [] => rfl
  | p :: ps => by rw [List.map_cons, List.sum_cons, sumN ps, ntpL]; omega
/-- where the loop stands -/
def StG (rs : List Pt) (b : Bool) (i : Nat) (is : List Int) : Prop := ∃ don rest j, rs = don ++ rest ∧ i = (graphN 0 0 don).length + j ∧ ((i : Nat) : Int) ∈ is ∧ match rest with
  | [] => j = 0 ∧ b = true
  | p :: _ => j ≤ nt p ∧ (0 < j → (((graphN 0 0 don).length + nt p + 1 : Nat) : Int) ∈ is)
theorem form_ok {f n R : Nat} {k0 : Kd} {rows rs : List Pt} {b : Bool} (ok : k0.Ok n) (hn : n ≤ 3) (hR : h[R]? = some (.lst (rows.map Pt.enc))) (hl : rows.length ≤ 12) (hr : ∀ p ∈ rows, RowG n k0 p) (hg : GrOk rows rs b) (hne : rows ≠ []) : Sat (sem T (f + 4) 17 [.tup (graphN 0 0 rs ++ tailG b), .ref R] h) fun r h' => Ext h h' ∧ r = .bl true := by
  have tl : ∀ p ∈ rows, nt p ≤ 400 := fun p hp => Nat.le_trans (tsts_len (hr p hp).hp ok []) (tn_le hn)
  obtain ⟨post, hpost⟩ := hg.pre
  have hrs : ∀ p ∈ rs, p ∈ rows := fun p hp => by rw [hpost]; simp [hp]
  have hll : rs.length ≤ rows.length := by rw [hpost]; simp
  have hgl := graphN_len 400 0 0 rs fun p hp => tl p (hrs p hp)
  have hgl : (graphN 0 0 rs).length ≤ 12 * 401 := Nat.le_trans hgl (Nat.mul_le_mul_right _ (by omega))
  have hrs0 : rs ≠ [] := by
    rcases hg with ⟨_, rfl, _⟩ | ⟨_, pre, p, post, _, rfl, _⟩
    · exact hne
    · simp
  have hG0 := graph_pos (b := 0) (k := 0) hrs0
  obtain ⟨G, hG⟩ : ∃ G, G = graphN 0 0 rs ++ tailG b := ⟨_, rfl⟩
  have hGl : G.length = (graphN 0 0 rs).length + if b = true then 1 else 0 := by
    rw [hG, List.length_append]
    unfold tailG
    split <;> rfl
  have hGb : (graphN 0 0 rs).length ≤ G.length ∧ G.length ≤ (graphN 0 0 rs).length + 1 := by rw [hGl]; split <;> omega
  have hcnt : G.length ≤ ntpL rows + rows.length + 1 := by
    have h1 := graph_cnt 0 0 rs
    have h2 : ntpL rs ≤ ntpL rows := by rw [hpost, ntpL_app]; omega
    omega
  rw [← hG]
  refine sat__law_graph_form ?_
  unfold b__law_graph_form
  repeat walk_at "pi"
  refine wsK.lst hR ?_
  refine Sat.compIx (fun c acc h' => Ext h h' ∧ acc = ((rows.take c).map fun p => ((ntp p : Nat) : Int)).map .int) ⟨Ext.refl _, by simp⟩ (fun _ _ h' ⟨x, _⟩ => still_of (x.at hR)) (fun c d acc h' hd ⟨x, ea⟩ => ?_) fun acc h1 ⟨x1, ea⟩ => ?_
  · rw [Wk.items, List.getElem?_map] at hd
    cases gp : rows[c]? with
    | none => rw [gp] at hd; cases hd
    | some p =>
      rw [gp] at hd
      cases hd
      have hc := (List.getElem?_eq_some_iff.mp gp).1
      have gr := hr p (List.mem_of_getElem? gp)
      repeat walk_at "pi"
      refine (tests_ok (f := f + 2) gr.hp ok hn gr.nb).mono fun r h2 ⟨x2, er⟩ => ?_
      subst er ea
      refine ⟨by simp; unfold SL; omega, x.trans x2, ?_⟩
      rw [List.take_succ, gp]
      simp
  rw [show (Wk.items (.lst R (rows.map Pt.enc))).length = rows.length by simp [Wk.items], List.take_length] at ea
  subst ea
  refine Sat.fSum (intsOf_mp _) ?_
  rw [sumN]
  have eR1 := x1.at hR
  repeat walk_at "pi"
  refine ifK.t (decide_eq_true (by omega)) ?_
  repeat walk_at "pi"
  refine Sat.lenL eR1 ?_
  repeat walk_at "pi"
  rw [List.length_map]
  refine ifK.t (decide_eq_true (by omega)) ?_
  repeat walk_at "pi"
  obtain ⟨N, hN⟩ : ∃ N, N = h1.length := ⟨_, rfl⟩
  rw [← hN]
  have ltR := lt_of_at eR1
  have lh1 := x1.1
  refine ⟨⟨by omega, by omega⟩, ?_⟩
  have hlen : (Wk.items (.rng 0 ((G.length : Nat) : Int).toNat)).length = G.length := by rw [rng_len]; omega
  refine Sat.forIx (fun i e h' => Ext h h' ∧ h'[R]? = some (.lst (rows.map Pt.enc)) ∧ ∃ (is : List Int) (v4 v5 : Option D), h'[N]? = some (.lst (is.map .int)) ∧ is.length ≤ 2 * i + 1 ∧ (i = G.length ∨ StG rs b i is) ∧ e = [some (.tup G), some (.ref R), some (.int ((ntpL rows : Nat) : Int)), some (.ref N), v4, v5, none])
    ⟨x1.trans Ext.push, Ext.push.at eR1, [0], _, _, by rw [hN]; exact at_push, by simp, .inr ⟨[], rs, 0, rfl, rfl, by simp, by cases rs <;> simp at hrs0 ⊢⟩, rfl⟩ (fun _ _ _ _ => rfl) (fun i d e h' hd ⟨xh, eR, is, v4, v5, eN, hil, st, ee⟩ => ?_) fun e h' ⟨xh, eR, is, v4, v5, eN, hil, st, ee⟩ => ?_
  · subst ee
    obtain ⟨hi, rfl⟩ := rng_at hd
    have hi : i < G.length := by omega
    obtain ⟨don, rest, j, er, ei, hin, hm⟩ := st.resolve_left (by omega)
    rw [Int.zero_add]
    cases rest with
    | nil =>
      obtain ⟨rfl, rfl⟩ := hm
      rw [List.append_nil] at er
      subst er
      have hat : G[i]? = some failD := by
        rw [hG, ei, Nat.add_zero, List.getElem?_append_right (Nat.le_refl _), Nat.sub_self]
        rfl
      have fin : ∃ (is : List Int) (v4 v5 : Option D), h'[N]? = some (.lst (is.map .int)) ∧ is.length ≤ 2 * (i + 1) + 1 ∧ (i + 1 = G.length ∨ StG rs true (i + 1) is) ∧ [some (.tup G), some (.ref R), some (.int ((ntpL rows : Nat) : Int)), some (.ref N), some (.int (i : Nat)), some failD, none] = [some (.tup G), some (.ref R), some (.int ((ntpL rows : Nat) : Int)), some (.ref N), v4, v5, none] := ⟨is, _, _, eN, by omega, .inl (by rw [hGl, if_pos rfl]; omega), rfl⟩
      repeat walk_at "pi"
      refine Sat.ixT (atIx_nat hat) ?_
      unfold failD at fin ⊢
      repeat walk_at "pi"
      refine ninI eN hin ?_
      repeat walk_at "pi"
      refine failNe ?_
      repeat walk_at "pi"
      exact ⟨xh, eR, fin⟩
    | cons p rest =>
      obtain ⟨hj, hj2⟩ := hm
      have hpm : p ∈ rs := by rw [er]; simp
      have gr := hr p (hrs p hpm)
      have gl := graph_le (don := don) (rest := rest) (p := p)
      rw [← er] at gl
      rcases Nat.lt_or_ge j (nt p) with c | c
      · have gt := List.getElem?_eq_getElem (l := tsts p []) (i := j) c
        obtain ⟨t, ht⟩ : ∃ t, t = (tsts p [])[j] := ⟨_, rfl⟩
        rw [← ht] at gt
        have hat : G[i]? = some (.tup [.str t.kd, plD t.pl, t.key.enc, .int (((graphN 0 0 don).length + j + 1 : Nat) : Int), .int (((graphN 0 0 don).length + nt p + 1 : Nat) : Int)]) := by
          rw [hG, ei, er]
          exact graph_at (row_at gt)
        have hkd := tst_kd gr.hp ok [] t (List.mem_of_getElem? gt)
        have hpl := tsts_pl gr.hp [] t (List.mem_of_getElem? gt)
        have hne : tsts p [] ≠ [] := fun z => by rw [z] at gt; simp at gt
        have hafter : (graphN 0 0 don).length + nt p + 1 < G.length := by
          rcases hg.more er hne with rfl | z
          · rw [hGl, if_pos rfl]; omega
          · have := graph_pos (b := (graphN 0 0 don).length + nt p + 1) (k := don.length + 1) z
            omega
        have hk3 : t.kd = s_exception ∨ t.kd = s_integer ∨ t.kd = s_constructor := by
          rcases hkd with ⟨z, _⟩ | ⟨z | z, _⟩
          · exact .inl z
          · exact .inr (.inl z)
          · exact .inr (.inr z)
        have hleaf : decide (t.kd = s_leaf) = false := by rcases hk3 with z | z | z <;> rw [z] <;> decide
        have hink : anyEq (.str t.kd) [.str s_constructor, .str s_integer, .str s_exception] = true := by rcases hk3 with z | z | z <;> rw [z] <;> decide
        simp at hpl
        repeat walk_at "pi"
        refine Sat.ixT (atIx_nat hat) ?_
        repeat walk_at "pi"
        refine ninI eN hin ?_
        repeat walk_at "pi"
        rw [hleaf]
        repeat walk_at "pi"
        refine ifK.t hink ?_
        repeat walk_at "pi"
        refine (test_ok (f := f + 1) (a := i) (m := G.length) (x := (graphN 0 0 don).length + j + 1) (y := (graphN 0 0 don).length + nt p + 1) hkd (by omega) (by omega) (by omega)).mono fun r h2 ⟨x2, er2⟩ => ?_
        subst er2
        have eN2 := x2.at eN
        have hNl := lt_of_at eN2
        repeat walk_at "pi"
        refine lsK.mk eN2 ?_
        repeat walk_at "pi"
        refine Sat.append eN2 (by simp; unfold SL; omega) ?_
        repeat walk_at "pi"
        refine lsK.mk (at_set eN2) ?_
        repeat walk_at "pi"
        refine Sat.append (at_set eN2) (by simp; unfold SL; omega) ?_
        repeat walk_at "pi"
        refine ⟨((xh.trans x2).set (by omega)).set (by omega), by rw [List.getElem?_set_ne (by omega), List.getElem?_set_ne (by omega)]; exact x2.at eR, is ++ [((((graphN 0 0 don).length + j + 1 : Nat) : Int)), (((graphN 0 0 don).length + nt p + 1 : Nat) : Int)], _, _, by rw [at_set (at_set eN2)]; simp, by simp; omega, .inr ⟨don, p :: rest, j + 1, er, by omega, ?_, by omega, fun _ => by simp⟩, rfl⟩
        rw [show i + 1 = (graphN 0 0 don).length + j + 1 by omega]
        simp
      · have hjn : j = nt p := by omega
        have hat : G[i]? = some (leafD don.length p) := by
          rw [hG, ei, er, hjn]
          exact graph_at row_leaf
        have hdl : don.length < rows.length := by
          have := congrArg List.length er
          simp at this
          omega
        repeat walk_at "pi"
        refine Sat.ixT (atIx_nat hat) ?_
        have unf : leafD don.length p = .tup [.str s_leaf, .int (don.length : Nat), .tup ((bnds p []).map bndD)] := rfl
        rw [unf]
        repeat walk_at "pi"
        refine ninI eN hin ?_
        repeat walk_at "pi"
        rw [← unf]
        refine (leaf_ok (f := f + 1) eR (by simpa using hdl) gr.hp hn gr.nb).mono fun r h2 ⟨eh, er2⟩ => ?_
        subst eh er2
        repeat walk_at "pi"
        refine ⟨xh, eR, is, _, _, eN, by omega, ?_, rfl⟩
        by_cases hts : tsts p [] = []
        · obtain ⟨rfl, rfl⟩ := hg.last er hts
          refine .inl ?_
          rw [hGl, if_neg (by simp)]
          simp only [graphN, List.length_nil] at gl
          omega
        · have hpos := nt_pos hts
          have hin2 := hj2 (by omega)
          have esn := graph_snoc (don := don) (p := p)
          rcases hg.more er hts with rfl | z
          · refine .inr ⟨don ++ [p], rest, 0, by rw [er]; simp, by rw [esn]; omega, by rw [show i + 1 = (graphN 0 0 don).length + nt p + 1 by omega]; exact hin2, ?_⟩
            cases rest with
            | nil => exact ⟨rfl, rfl⟩
            | cons q r => exact ⟨by omega, fun z => by omega⟩
          · refine .inr ⟨don ++ [p], rest, 0, by rw [er]; simp, by rw [esn]; omega, by rw [show i + 1 = (graphN 0 0 don).length + nt p + 1 by omega]; exact hin2, ?_⟩
            cases rest with
            | nil => exact absurd rfl z
            | cons q r => exact ⟨by omega, fun z => by omega⟩
  · subst ee
    repeat walk_at "pi"
    exact ⟨xh, rfl⟩
end
end K41
/-! ## LawJ_K41 -/
set_option Elab.async false
set_option linter.all false
set_option maxRecDepth 100000
set_option maxHeartbeats 4000000
set_option autoImplicit false
/-! K41: the walk of a value. -/
namespace K41
open PI
local macro_rules | `(tactic| walk_at "pi") => `(tactic| (
  first
  | (with_reducible refine PI.red ?_)
  | ((with_reducible show PI.Sat (PI.dVar _ _ _) _); refine Sat.var rfl ?_)
  | ((with_reducible show PI.Sat (PI.sAug _ _ _ _ _) _); refine Sat.aug rfl ?_)
  | ((with_reducible show PI.npK _ _ _); refine npK.mk rfl ?_)
  | ((with_reducible show PI.szK _ _); refine szK.mk (by simp only [List.length_cons, List.length_nil]; decide) ?_)
  | ((with_reducible show PI.isaK _ _ _ _); refine isaK.mk rfl ?_)
  | ((with_reducible show PI.ifK _ _ _); first | (refine ifK.t (by rfl) ?_) | (refine ifK.f (by rfl) ?_))
  | ((with_reducible show PI.Sat (PI.gTp _ _ _ _ _) _); refine Sat.gTp rfl ?_)
  | ((with_reducible show PI.Sat (PI.cIsB _ _ _) _); refine Sat.isB rfl ?_)
  | ((with_reducible show PI.Sat (PI.cNotB _ _ _) _); refine Sat.notB rfl ?_)
  | ((with_reducible show PI.Sat (PI.cIn _ (PI.D.tup _) _) _); refine Sat.inT rfl ?_)
  | ((with_reducible show PI.Sat (PI.cNin _ (PI.D.tup _) _) _); refine Sat.ninT rfl ?_)
  | ((with_reducible show PI.Sat (PI.cIsN _ _) _); refine Sat.isN rfl ?_)
  | ((with_reducible show PI.Sat (PI.cNotN _ _) _); refine Sat.notN rfl ?_)
  | ((with_reducible show PI.Sat (PI.oPow _ _ _) _); refine Sat.powI (by decide) ?_)))
mutual
theorem eqv_same : ∀ d : D, d.flat = true → D.eqv d d = true
  | .non, _ => rfl
  | .bl b, _ => by simp [D.eqv]
  | .int i, _ => by simp [D.eqv]
  | .str s, _ => by simp [D.eqv]
  | .tup xs, h => by
    rw [D.eqv]
    exact eqvL_same xs (by simpa [D.flat] using h)
  | .ref n, h => by simp [D.flat] at h
  | .cv n, h => by simp [D.flat] at h
  | .rl xs, h => by simp [D.flat] at h
theorem eqvL_same : ∀ ds : List D, D.flatL ds = true → D.eqvL ds ds = true
  | [], _ => rfl
  | d :: ds, h => by
    rw [D.flatL, Bool.and_eq_true] at h
    rw [D.eqvL, eqv_same d h.1, eqvL_same ds h.2]
    rfl
end
section
variable {h : Hh}
/-- two pairs that hold equal lists -/
theorem eqTL {k : Int} {p q : Nat} {ds : List D} {Q : D → Hh → Prop} (e1 : h[p]? = some (.lst ds)) (e2 : h[q]? = some (.lst ds)) (fd : D.fitL ds = true) (s : Q (.bl true) h) : Sat (cEq (.tup [.int k, .ref p]) (.tup [.int k, .ref q]) h) Q := by
  have hf : D.flatL ds = true := by
    rw [D.fitL, Bool.and_eq_true] at fd
    exact fd.1
  have x1 : eqE h (.int k) (.int k) = some true := by
    simp only [eqE, listOf]
    rw [show (D.int k).fit = true by simp [D.fit, D.flat, D.deep], eqv_same _ rfl]
    rfl
  have x2 : eqE h (.ref p) (.ref q) = some true := by
    simp only [eqE, listOf, lstAt, e1, e2, fd, eqvL_same ds hf]
    rfl
  have x3 : eqEL h [.int k, .ref p] [.int k, .ref q] = some true := by
    simp only [eqEL, x1, x2]
    rfl
  have : eqR h (.tup [.int k, .ref p]) (.tup [.int k, .ref q]) = some true := by
    have nf : (D.tup [.int k, .ref p]).fit = false := by simp [D.fit, D.flat, D.flatL]
    simp only [eqR, listOf, nf, x3]
    rfl
  simp only [cEq, this]
  exact .ok s
theorem hasV_flat {num : Nat → Int} : ∀ (n : Nat) {k : Kd} {v : Vq}, k.Ok n → HasV num n k v → v.enc.flat = true := by
  intro n
  induction n with
  | zero =>
    intro k v ok hv
    cases k with
    | int =>
      cases v with
      | int i => simp only [Vq.enc, D.flat, D.flatL]; decide
      | _ => exact hv.elim
    | _ => exact ok.elim
  | succ n ih =>
    intro k v ok hv
    have nil0 : ∀ {k : Kd} {w : Vq}, (k = .nil ∨ k.Ok n) → ((k = .nil ∧ w = .nil) ∨ HasV num n k w) → w.enc.flat = true := by
      intro k w ok hw
      rcases hw with ⟨_, rfl⟩ | hw
      · rfl
      · rcases ok with rfl | ok
        · exact absurd hw (by cases n <;> exact fun z => z.elim)
        · exact ih ok hw
    cases k with
    | nil => exact ok.elim
    | int =>
      cases v with
      | int i => simp only [Vq.enc, D.flat, D.flatL]; decide
      | _ => exact hv.elim
    | tup ks =>
      cases v with
      | tup vs =>
        obtain ⟨hl, hv⟩ := hv
        have : D.flatL (Vq.encL vs) = true := flatL_of fun d hd => by
          rw [vencL] at hd
          obtain ⟨w, hw, rfl⟩ := List.mem_map.mp hd
          obtain ⟨i, hi, ei⟩ := List.mem_iff_getElem.mp hw
          have gw := List.getElem?_eq_getElem hi
          rw [ei] at gw
          have gk := List.getElem?_eq_getElem (l := ks) (i := i) (by omega)
          exact ih (ok.2.2 _ (List.mem_of_getElem? gk)) (hv i _ w gk gw)
        simp only [Vq.enc, D.flat, D.flatL, this]
        decide
      | _ => exact hv.elim
    | pkt ks =>
      cases v with
      | pkt m nm w =>
        obtain ⟨rfl, hv⟩ := hv
        have : w.enc.flat = true := by
          rcases hv with ⟨_, rfl⟩ | ⟨i, k, e, _, hv⟩
          · rfl
          · exact nil0 (ok.2 k (List.mem_of_getElem? e)) hv
        simp only [Vq.enc, D.flat, D.flatL, this]
        decide
      | _ => exact hv.elim
    | con fam ks =>
      cases v with
      | con a nm w =>
        obtain ⟨k, p, e, ef, rfl, hv⟩ := hv
        have : w.enc.flat = true := nil0 (ok.2.2.2.2 k (List.mem_of_getElem? e)) hv
        have h1 := (ok.2.2.1 a p ef).1
        have h2 := ok.2.1
        have h3 := (List.getElem?_eq_some_iff.mp ef).1
        have h4 : p.1.all (· < 0x110000) = true := by
          rw [h1]
          simp
          omega
        simp only [Vq.enc, D.flat, D.flatL, this, h4]
        decide
      | _ => exact hv.elim
theorem flatL_mp {ds : List D} (hf : D.flatL ds = true) {d : D} (h : d ∈ ds) : d.flat = true := by
  induction ds with
  | nil => cases h
  | cons x ds ih =>
    rw [D.flatL, Bool.and_eq_true] at hf
    rcases List.mem_cons.mp h with rfl | h
    · exact hf.1
    · exact ih hf.2 h
theorem deepL_mp {ds : List D} {d : D} (h : d ∈ ds) : d.deep ≤ D.deepL ds := by
  induction ds with
  | nil => cases h
  | cons x ds ih =>
    rw [D.deepL]
    rcases List.mem_cons.mp h with rfl | h
    · omega
    · have := ih h
      omega
theorem partD_flat : ∀ {pl : List Hop} {d x : D}, partD d pl = some x → d.flat = true → x.flat = true ∧ x.deep ≤ d.deep
  | [], d, x, e, hf => by
    cases e
    exact ⟨hf, Nat.le_refl _⟩
  | s :: pl, d, x, e, hf => by
    rw [partD] at e
    cases hh : hop1 d s with
    | none => rw [hh] at e; cases e
    | some z =>
      rw [hh] at e
      have : z.flat = true ∧ z.deep ≤ d.deep := by
        rcases hop_inv hh with ⟨rfl, t, a, b, rfl, _, _⟩ | ⟨i, ys, rfl, rfl, hi⟩
        · simp only [D.flat, D.flatL, Bool.and_eq_true, Bool.and_true] at hf
          simp only [D.deep, D.deepL]
          exact ⟨hf.2.2.2, by omega⟩
        · simp only [D.flat, D.flatL, Bool.and_eq_true, Bool.and_true] at hf
          have hm := List.mem_of_getElem? hi
          have := deepL_mp hm
          simp only [D.deep, D.deepL]
          exact ⟨flatL_mp hf.2 hm, by omega⟩
      have ih := partD_flat e this.1
      exact ⟨ih.1, by omega⟩
theorem BndD.at {root : D} : ∀ {bs : List (List Nat × List Hop)} {ds : List D}, BndD root bs ds → bs.length = ds.length ∧ ∀ (i : Nat) (b : List Nat × List Hop), bs[i]? = some b → ∃ x, partD root b.2 = some x ∧ ds[i]? = some (.tup [.str b.1, x])
  | [], [], _ => ⟨rfl, fun i b e => by simp at e⟩
  | b :: bs, d :: ds, h => by
    obtain ⟨⟨x, e1, e2⟩, h⟩ := h
    obtain ⟨l, a⟩ := BndD.at h
    refine ⟨by simp [l], fun i c e => ?_⟩
    cases i with
    | zero =>
      cases e
      exact ⟨x, e1, by rw [e2]; rfl⟩
    | succ i =>
      obtain ⟨y, g1, g2⟩ := a i c (by simpa using e)
      exact ⟨y, g1, by simpa using g2⟩
  | [], _ :: _, h => h.elim
  | _ :: _, [], h => h.elim
theorem bnd_fit {root : D} {bs : List (List Nat × List Hop)} {ds : List D} (h : BndD root bs ds) (hf : root.flat = true) (hd : root.deep ≤ 50) (hb : ∀ b ∈ bs, b.1.all (· < 0x110000) = true) : D.fitL ds = true := by
  obtain ⟨l, a⟩ := h.at
  have each : ∀ d ∈ ds, d.flat = true ∧ d.deep ≤ 51 := fun d hd' => by
    obtain ⟨i, hi, ei⟩ := List.mem_iff_getElem.mp hd'
    have gb := List.getElem?_eq_getElem (l := bs) (i := i) (by omega)
    obtain ⟨x, e1, e2⟩ := a i _ gb
    rw [List.getElem?_eq_getElem hi, ei] at e2
    cases e2
    have h1 := partD_flat e1 hf
    have h2 := hb _ (List.mem_of_getElem? gb)
    refine ⟨?_, ?_⟩
    · simp only [D.flat, D.flatL, Bool.and_true, h1.1]
      exact h2
    · simp only [D.deep, D.deepL]
      omega
  have h1 : D.flatL ds = true := flatL_of fun d hd => (each d hd).1
  have h2 : D.deepL ds ≤ 51 := deepL_of fun d hd => (each d hd).2
  rw [D.fitL, h1, decide_eq_true (by omega)]
  rfl
theorem pl_fit (pl : List Hop) : (plD pl).flat = true ∧ (plD pl).deep ≤ 1 := by
  have each : ∀ d ∈ pl.map Hop.enc, d.flat = true ∧ d.deep ≤ 0 := fun d hd => by
    obtain ⟨o, _, rfl⟩ := List.mem_map.mp hd
    cases o with
    | ix i => exact ⟨rfl, Nat.le_refl _⟩
    | arg => exact ⟨by decide, Nat.le_refl _⟩
  have h1 : D.flatL (pl.map Hop.enc) = true := flatL_of fun d hd => (each d hd).1
  have h2 : D.deepL (pl.map Hop.enc) ≤ 0 := deepL_of fun d hd => (each d hd).2
  unfold plD
  simp only [D.flat, D.deep]
  exact ⟨h1, by omega⟩
theorem key_fit {t : Tst} (hk : KdOk t) : t.kd.all (· < 0x110000) = true ∧ t.key.enc.flat = true ∧ t.key.enc.deep ≤ 3 := by
  rcases hk with ⟨e1, i, e2, hi⟩ | ⟨e1, i, e2⟩
  · rw [e1, e2]
    have : i = 0 ∨ i = 1 ∨ i = 2 := by omega
    rcases this with rfl | rfl | rfl <;> decide
  · rw [e2]
    refine ⟨?_, rfl, by simp [Key.enc, D.deep]⟩
    rcases e1 with e1 | e1 <;> rw [e1] <;> decide
theorem test_fit {t : Tst} {x y : Int} (hk : KdOk t) : (D.tup [.str t.kd, plD t.pl, t.key.enc, .int x, .int y]).fit = true := by
  obtain ⟨h1, h2, h3⟩ := key_fit hk
  obtain ⟨h4, h5⟩ := pl_fit t.pl
  have f : (D.tup [.str t.kd, plD t.pl, t.key.enc, .int x, .int y]).flat = true := by
    simp only [D.flat, D.flatL, Bool.and_true, h1, h2, h4]
  have d : (D.tup [.str t.kd, plD t.pl, t.key.enc, .int x, .int y]).deep ≤ 60 := by
    simp only [D.deep, D.deepL]
    omega
  rw [D.fit, f, decide_eq_true d]
  rfl
theorem leaf_fit {k n : Nat} {kd : Kd} {p : Pt} (hp : HasP n kd p) : (leafD k p).fit = true := by
  have each : ∀ d ∈ (bnds p []).map bndD, d.flat = true ∧ d.deep ≤ 2 := fun d hd => by
    obtain ⟨b, hb, rfl⟩ := List.mem_map.mp hd
    have h1 := (bnds_pl hp [] b hb).2
    obtain ⟨h4, h5⟩ := pl_fit b.2
    refine ⟨?_, ?_⟩
    · simp only [bndD, D.flat, D.flatL, Bool.and_true, h4]
      exact h1
    · simp only [bndD, D.deep, D.deepL]
      omega
  have h1 : D.flatL ((bnds p []).map bndD) = true := flatL_of fun d hd => (each d hd).1
  have h2 : D.deepL ((bnds p []).map bndD) ≤ 2 := deepL_of fun d hd => (each d hd).2
  have f : (leafD k p).flat = true := by
    simp only [leafD, D.flat, D.flatL, Bool.and_true, h1]
    decide
  have d : (leafD k p).deep ≤ 60 := by
    simp only [leafD, D.deep, D.deepL]
    omega
  rw [D.fit, f, decide_eq_true d]
  rfl
theorem failEq {Q : D → Hh → Prop} (q : Q (.bl true) h) : Sat (cEq failD (.tup [.str s_fail]) h) Q := .eqT (by decide) (by decide) (by
  rw [show D.eqvL [D.str s_fail] [D.str s_fail] = true by decide]
  exact q)
theorem failEqN {x y : D} {xs : List D} {Q : D → Hh → Prop} (hf : (D.tup (x :: y :: xs)).fit = true) (q : Q (.bl false) h) : Sat (cEq (.tup (x :: y :: xs)) (.tup [.str s_fail]) h) Q := .eqT hf (by decide) (by
  rw [show D.eqvL (x :: y :: xs) [D.str s_fail] = false by simp [D.eqvL]]
  exact q)
end
end K41
/-! ## LawK_K41 -/
set_option Elab.async false
set_option linter.all false
set_option maxRecDepth 100000
set_option maxHeartbeats 4000000
set_option autoImplicit false
/-! K41: the walk of a value through the graph. -/
namespace K41
open PI
local macro_rules | `(tactic| walk_at "pi") => `(tactic| (
  first
  | (with_reducible refine PI.red ?_)
  | ((with_reducible show PI.Sat (PI.dVar _ _ _) _); refine Sat.var rfl ?_)
  | ((with_reducible show PI.Sat (PI.sAug _ _ _ _ _) _); refine Sat.aug rfl ?_)
  | ((with_reducible show PI.npK _ _ _); refine npK.mk rfl ?_)
  | ((with_reducible show PI.szK _ _); refine szK.mk (by simp only [List.length_cons, List.length_nil]; decide) ?_)
  | ((with_reducible show PI.isaK _ _ _ _); refine isaK.mk rfl ?_)
  | ((with_reducible show PI.ifK _ _ _); first | (refine ifK.t (by rfl) ?_) | (refine ifK.f (by rfl) ?_))
  | ((with_reducible show PI.Sat (PI.gTp _ _ _ _ _) _); refine Sat.gTp rfl ?_)
  | ((with_reducible show PI.Sat (PI.cIsB _ _ _) _); refine Sat.isB rfl ?_)
  | ((with_reducible show PI.Sat (PI.cNotB _ _ _) _); refine Sat.notB rfl ?_)
  | ((with_reducible show PI.Sat (PI.cIn _ (PI.D.tup _) _) _); refine Sat.inT rfl ?_)
  | ((with_reducible show PI.Sat (PI.cNin _ (PI.D.tup _) _) _); refine Sat.ninT rfl ?_)
  | ((with_reducible show PI.Sat (PI.cIsN _ _) _); refine Sat.isN rfl ?_)
  | ((with_reducible show PI.Sat (PI.cNotN _ _) _); refine Sat.notN rfl ?_)
  | ((with_reducible show PI.Sat (PI.oPow _ _ _) _); refine Sat.powI (by decide) ?_)))
def num4 : Nat → Int
  | 0 => 4
  | 1 => 5
  | _ => 6
theorem num4_77 : ∀ i, num4 i ≠ 77
  | 0 => by decide
  | 1 => by decide
  | _ + 2 => by show (6 : Int) ≠ 77; decide
theorem num4_inj : ∀ i j, i < 3 → j < 3 → num4 i = num4 j → i = j := by
  intro i j hi hj
  have : i = 0 ∨ i = 1 ∨ i = 2 := by omega
  have : j = 0 ∨ j = 1 ∨ j = 2 := by omega
  rcases ‹i = 0 ∨ i = 1 ∨ i = 2› with rfl | rfl | rfl <;> rcases ‹j = 0 ∨ j = 1 ∨ j = 2› with rfl | rfl | rfl <;> decide
section
variable {h : Hh}
theorem firstF_all {num : Nat → Int} {v : Vq} (k : Nat) (xs : List Pt) (hx : ∀ p ∈ xs, (fitQ (numX num) p v).2 = false) : firstF num v k xs = none := by
  have := firstF_skip (num := num) (v := v) k xs [] hx
  rw [List.append_nil] at this
  rw [this]
  rfl
theorem firstF_at {num : Nat → Int} {v : Vq} (don rest : List Pt) (p : Pt) (hx : ∀ q ∈ don, (fitQ (numX num) q v).2 = false) (hp : (fitQ (numX num) p v).2 = true) : firstF num v 0 (don ++ p :: rest) = some (don.length, p) := by
  rw [firstF_skip 0 don _ hx, firstF, if_pos hp, Nat.zero_add]
theorem walks_ok {n R : Nat} {k0 : Kd} {rows rs : List Pt} {b : Bool} {v : Vq} (ok : k0.Ok n) (hn : n ≤ 3) (cl : k0.Cl num4 n) (h77 : ∀ i, num4 i ≠ 77) (hR : h[R]? = some (.lst (rows.map Pt.enc))) (hl : rows.length ≤ 12) (hr : ∀ p ∈ rows, RowG n k0 p) (hg : GrOk rows rs b) (hv : HasV num4 n k0 v) : Sat (sem T 229 20 [.tup (graphN 0 0 rs ++ tailG b), .ref R, v.enc] h) fun r h' => Ext h h' ∧ r = .bl true := by
  have tl : ∀ p ∈ rows, nt p ≤ 400 := fun p hp => Nat.le_trans (tsts_len (hr p hp).hp ok []) (tn_le hn)
  obtain ⟨post, hpost⟩ := hg.pre
  have hrs : ∀ p ∈ rs, p ∈ rows := fun p hp => by rw [hpost]; simp [hp]
  have hll : rs.length ≤ rows.length := by rw [hpost]; simp
  have hgl := graphN_len 400 0 0 rs fun p hp => tl p (hrs p hp)
  have hgl : (graphN 0 0 rs).length ≤ 12 * 401 := Nat.le_trans hgl (Nat.mul_le_mul_right _ (by omega))
  obtain ⟨G, hG⟩ : ∃ G, G = graphN 0 0 rs ++ tailG b := ⟨_, rfl⟩
  have hGl : G.length = (graphN 0 0 rs).length + if b = true then 1 else 0 := by
    rw [hG, List.length_append]
    unfold tailG
    split <;> rfl
  have hGb : (graphN 0 0 rs).length ≤ G.length ∧ G.length ≤ (graphN 0 0 rs).length + 1 := by rw [hGl]; split <;> omega
  have sem1 : ∀ p ∈ rs, Sem num4 v.enc (tsts p []) (bnds p []) (fitQ (numX num4) p v) := fun p hp => tests_sem h77 (hr p (hrs p hp)).hp hv ok cl rfl
  have vf := hasV_flat n ok hv
  have vd : v.enc.deep ≤ 50 := by have := (hasV_good' n k0 v ok hv).2.2; omega
  rw [← hG]
  refine sat__law_walks ?_
  unfold b__law_walks
  repeat walk_at "pi"
  have hm4 : numsAt num4 h.length (h ++ [Ob.lst [D.int 4, .int 5, .int 6]]) := at_push
  refine (first_ok ok cl h77 (R := R) (M := h.length) (by simp) hm4 (Ext.push.at hR) hl hr hv).mono fun due h1 ⟨x1, hd⟩ => ?_
  have x01 : Ext h h1 := Ext.push.trans x1
  have eR1 := x01.at hR
  clear hm4 x1
  repeat walk_at "pi"
  refine ⟨⟨by omega, by omega⟩, ?_⟩
  have hlen : (Wk.items (.rng 0 ((G.length : Nat) : Int).toNat)).length = G.length := by rw [rng_len]; omega
  refine Sat.forIx (fun i e h' => Ext h1 h' ∧ ∃ (don rest : List Pt) (j : Nat) (v5 v6 v7 v8 : Option D), rs = don ++ rest ∧ (∀ q ∈ don, (fitQ (numX num4) q v).2 = false) ∧ (match rest with
      | [] => j = 0 ∧ b = true
      | p :: _ => j ≤ nt p ∧ ∀ i u, i < j → (tsts p [])[i]? = some u → PassD num4 v.enc u true) ∧ i ≤ (graphN 0 0 don).length + j ∧ e = [some (.tup G), some (.ref R), some v.enc, some due, some (.int (((graphN 0 0 don).length + j : Nat) : Int)), v5, v6, v7, v8, none])
    ⟨Ext.refl _, [], rs, 0, _, _, _, _, rfl, by simp, ?_, by simp [graphN], rfl⟩ (fun _ _ _ _ => rfl) (fun i d e h' hd2 ⟨xh, don, rest, j, v5, v6, v7, v8, er, hdn, hj, hij, ee⟩ => ?_) fun e h' ⟨xh, don, rest, j, v5, v6, v7, v8, er, hdn, hj, hij, ee⟩ => ?_
  · cases rs with
    | nil =>
      rcases hg with ⟨rfl, _⟩ | ⟨_, pre, p, post, _, e, _⟩
      · exact ⟨rfl, rfl⟩
      · simp at e
    | cons p r => exact ⟨by omega, fun i u z => by omega⟩
  · subst ee
    obtain ⟨hi, rfl⟩ := rng_at hd2
    have hi : i < G.length := by omega
    cases rest with
    | nil =>
      obtain ⟨rfl, rfl⟩ := hj
      rw [List.append_nil] at er
      subst er
      have hat : G[(graphN 0 0 rs).length + 0]? = some failD := by
        rw [hG, Nat.add_zero, List.getElem?_append_right (Nat.le_refl _), Nat.sub_self]
        rfl
      have e0 : rows = rs := by
        rcases hg with ⟨_, rfl, _⟩ | ⟨z, _⟩
        · rfl
        · cases z
      rw [e0, firstF_all 0 rs hdn] at hd
      subst hd
      repeat walk_at "pi"
      refine Sat.ixT (atIx_nat hat) ?_
      repeat walk_at "pi"
      refine failEq ?_
      repeat walk_at "pi"
      exact ⟨x01.trans xh, rfl⟩
    | cons p rest =>
      obtain ⟨hj, hpass⟩ := hj
      have hpm : p ∈ rs := by rw [er]; simp
      have gr := hr p (hrs p hpm)
      rcases Nat.lt_or_ge j (nt p) with c | c
      · have gt := List.getElem?_eq_getElem (l := tsts p []) (i := j) c
        obtain ⟨t, ht⟩ : ∃ t, t = (tsts p [])[j] := ⟨_, rfl⟩
        rw [← ht] at gt
        have hat : G[(graphN 0 0 don).length + j]? = some (.tup [.str t.kd, plD t.pl, t.key.enc, .int (((graphN 0 0 don).length + j + 1 : Nat) : Int), .int (((graphN 0 0 don).length + nt p + 1 : Nat) : Int)]) := by
          rw [hG, er]
          exact graph_at (row_at gt)
        have hkd := tst_kd gr.hp ok [] t (List.mem_of_getElem? gt)
        have hne : tsts p [] ≠ [] := fun z => by rw [z] at gt; simp at gt
        have esn := graph_snoc (don := don) (p := p)
        obtain ⟨bb, hps, hbb⟩ : ∃ bb, PassD num4 v.enc t bb ∧ (bb = false → (fitQ (numX num4) p v).2 = false) := by
          rcases sem_at (sem1 p hpm) gt hpass with z | ⟨z, z2⟩
          · exact ⟨true, z, fun e => by cases e⟩
          · exact ⟨false, z, fun _ => z2⟩
        have hps2 := hps
        obtain ⟨tg, jj, r0, hpart, htag, hbe⟩ := hps
        -- the next place
        have nxt : ∀ (h2 : Hh) (v5 v6 v7 v8 : Option D) (z : Int), Ext h1 h2 → z = (if bb = true then (((graphN 0 0 don).length + j + 1 : Nat) : Int) else (((graphN 0 0 don).length + nt p + 1 : Nat) : Int)) → Ext h1 h2 ∧ ∃ (don' rest' : List Pt) (j' : Nat) (w5 w6 w7 w8 : Option D), rs = don' ++ rest' ∧ (∀ q ∈ don', (fitQ (numX num4) q v).2 = false) ∧ (match rest' with
            | [] => j' = 0 ∧ b = true
            | p :: _ => j' ≤ nt p ∧ ∀ i u, i < j' → (tsts p [])[i]? = some u → PassD num4 v.enc u true) ∧ i + 1 ≤ (graphN 0 0 don').length + j' ∧ [some (.tup G), some (.ref R), some v.enc, some due, some (.int z), v5, v6, v7, v8, none] = [some (.tup G), some (.ref R), some v.enc, some due, some (.int (((graphN 0 0 don').length + j' : Nat) : Int)), w5, w6, w7, w8, none] := by
          intro h2 v5 v6 v7 v8 z x2 ez
          refine ⟨x2, ?_⟩
          cases bb with
          | true =>
            rw [if_pos rfl] at ez
            subst ez
            refine ⟨don, p :: rest, j + 1, _, _, _, _, er, hdn, ⟨by omega, fun i2 u hi2 gu => ?_⟩, by omega, rfl⟩
            rcases Nat.lt_or_ge i2 j with c2 | c2
            · exact hpass i2 u c2 gu
            · have : i2 = j := by omega
              subst this
              rw [gt] at gu
              cases gu
              exact hps2
          | false =>
            rw [if_neg (by simp)] at ez
            subst ez
            refine ⟨don ++ [p], rest, 0, _, _, _, _, by rw [er]; simp, fun q hq => ?_, ?_, by omega, by rw [esn, Nat.add_zero]⟩
            · rcases List.mem_append.mp hq with z | z
              · exact hdn q z
              · rw [List.mem_singleton.mp z]; exact hbb rfl
            · cases rest with
              | nil => exact ⟨rfl, (hg.more er hne).resolve_right (by simp)⟩
              | cons q r => exact ⟨by omega, fun i u z => by omega⟩
        have hleaf : decide (t.kd = s_leaf) = false := by rcases htag with ⟨z, _⟩ | ⟨z, _⟩ | ⟨z, _⟩ <;> rw [z] <;> decide
        repeat walk_at "pi"
        refine Sat.ixT (atIx_nat hat) ?_
        repeat walk_at "pi"
        refine failEqN (test_fit hkd) ?_
        repeat walk_at "pi"
        rw [hleaf]
        repeat walk_at "pi"
        refine (part_ok (f := 227) hpart).mono fun r h2 ⟨eh, er2⟩ => ?_
        subst eh er2
        repeat walk_at "pi"
        rcases htag with ⟨z1, z2⟩ | ⟨z1, z2⟩ | ⟨z1, z2⟩
        · have hkey : ∃ i, t.key = .num i := by
            rcases hkd with ⟨z, _⟩ | ⟨_, z⟩
            · rw [z1] at z; exact absurd z (by decide)
            · exact z
          obtain ⟨kk, hkk⟩ := hkey
          rw [hkk] at hbe
          rw [z1, z2, hkk]
          simp only [Key.enc]
          refine lsK.mk at_push ?_
          repeat walk_at "pi"
          refine Sat.index (xs := [.str s_constructor, .str s_integer, .str s_exception]) (x := .str s_constructor) (j := 0) at_push (by decide) (by decide) ?_
          repeat walk_at "pi"
          refine Sat.ixL (Ext.push.at at_push) (z := .str s_con) (atIx_nat (i := 0) rfl) ?_
          repeat walk_at "pi"
          subst hbe
          refine ifK.d (fun c3 => ?_) fun c3 => ?_
          · repeat walk_at "pi"
            exact nxt _ _ _ _ _ _ (xh.trans (Ext.push.trans Ext.push)) (by rw [if_pos]; exact decide_eq_true c3)
          · repeat walk_at "pi"
            exact nxt _ _ _ _ _ _ (xh.trans (Ext.push.trans Ext.push)) (if_neg fun z => c3 (of_decide_eq_true z)).symm
        · have hkey : ∃ i, t.key = .num i := by
            rcases hkd with ⟨z, _⟩ | ⟨_, z⟩
            · rw [z1] at z; exact absurd z (by decide)
            · exact z
          obtain ⟨kk, hkk⟩ := hkey
          rw [hkk] at hbe
          rw [z1, z2, hkk]
          simp only [Key.enc]
          refine lsK.mk at_push ?_
          repeat walk_at "pi"
          refine Sat.index (xs := [.str s_constructor, .str s_integer, .str s_exception]) (x := .str s_integer) (j := 1) at_push (by decide) (by decide) ?_
          repeat walk_at "pi"
          refine Sat.ixL (Ext.push.at at_push) (z := .str s_int) (atIx_nat (i := 1) rfl) ?_
          repeat walk_at "pi"
          subst hbe
          refine ifK.d (fun c3 => ?_) fun c3 => ?_
          · repeat walk_at "pi"
            exact nxt _ _ _ _ _ _ (xh.trans (Ext.push.trans Ext.push)) (by rw [if_pos]; exact decide_eq_true c3)
          · repeat walk_at "pi"
            exact nxt _ _ _ _ _ _ (xh.trans (Ext.push.trans Ext.push)) (if_neg fun z => c3 (of_decide_eq_true z)).symm
        · have hkey : ∃ i, t.key = .path i ∧ i < 3 := by
            rcases hkd with ⟨_, z⟩ | ⟨z | z, _⟩
            · exact z
            · rw [z1] at z; exact absurd z (by decide)
            · rw [z1] at z; exact absurd z (by decide)
          obtain ⟨kk, hkk, hk3⟩ := hkey
          rw [hkk] at hbe
          rw [z1, z2, hkk]
          simp only [Key.enc]
          refine lsK.mk at_push ?_
          repeat walk_at "pi"
          refine Sat.index (xs := [.str s_constructor, .str s_integer, .str s_exception]) (x := .str s_exception) (j := 2) at_push (by decide) (by decide) ?_
          repeat walk_at "pi"
          refine Sat.ixL (Ext.push.at at_push) (z := .str s_packet) (atIx_nat (i := 2) rfl) ?_
          repeat walk_at "pi"
          refine (number_ok hP (f := 226) (num := num4) hk3 at_push).mono fun r h3 ⟨er3, eh3⟩ => ?_
          subst er3 eh3
          repeat walk_at "pi"
          subst hbe
          refine ifK.d (fun c3 => ?_) fun c3 => ?_
          · repeat walk_at "pi"
            exact nxt _ _ _ _ _ _ (xh.trans (Ext.push.trans (Ext.push.trans (Ext.push.trans Ext.push)))) (by rw [if_pos]; exact decide_eq_true c3)
          · repeat walk_at "pi"
            exact nxt _ _ _ _ _ _ (xh.trans (Ext.push.trans (Ext.push.trans (Ext.push.trans Ext.push)))) (if_neg fun z => c3 (of_decide_eq_true z)).symm
      · have hjn : j = nt p := by omega
        subst hjn
        have hfit : (fitQ (numX num4) p v).2 = true := sem_all (sem1 p hpm) fun i2 u gu => hpass i2 u (by have := (List.getElem?_eq_some_iff.mp gu).1; unfold nt; omega) gu
        have hfst : firstF num4 v 0 rows = some (don.length, p) := by
          rw [hpost, er, List.append_assoc]
          exact firstF_at don _ p hdn hfit
        rw [hfst] at hd
        obtain ⟨_, q, rfl, eq⟩ := hd
        have hat : G[(graphN 0 0 don).length + nt p]? = some (leafD don.length p) := by
          rw [hG, er]
          exact graph_at row_leaf
        have hbd := ((sem1 p hpm).1 hfit).2
        obtain ⟨lb, ab⟩ := hbd.at
        have fd := bnd_fit hbd vf vd fun b hb => (bnds_pl gr.hp [] b hb).2
        have hlf := leaf_fit (k := don.length) gr.hp
        have unf : leafD don.length p = .tup [.str s_leaf, .int (don.length : Nat), .tup ((bnds p []).map bndD)] := rfl
        have lbn := bnds_len p []
        have gnb := gr.nb
        rw [unf] at hat hlf
        repeat walk_at "pi"
        refine Sat.ixT (atIx_nat hat) ?_
        repeat walk_at "pi"
        refine failEqN hlf ?_
        repeat walk_at "pi"
        refine Sat.compIx (fun c acc h2 => h2 = h' ∧ acc = (fitQ (numX num4) p v).1.take c) ⟨rfl, by simp⟩ (fun _ _ _ _ => rfl) (fun c d acc h2 hd3 ⟨eh, ea⟩ => ?_) fun acc h2 ⟨eh, ea⟩ => ?_
        · subst eh
          rw [Wk.items, List.getElem?_map] at hd3
          cases gb : (bnds p [])[c]? with
          | none => rw [gb] at hd3; cases hd3
          | some bd =>
            rw [gb] at hd3
            cases hd3
            obtain ⟨x, ex, gd⟩ := ab c bd gb
            unfold bndD
            repeat walk_at "pi"
            refine (part_ok (f := 227) ex).mono fun r h3 ⟨eh, er2⟩ => ?_
            subst eh er2 ea
            repeat walk_at "pi"
            have hc := (List.getElem?_eq_some_iff.mp gb).1
            refine ⟨by simp; unfold SL; omega, rfl, ?_⟩
            rw [List.take_succ, gd]
            rfl
        · subst eh
          rw [show (Wk.items (.its ((bnds p []).map bndD))).length = (fitQ (numX num4) p v).1.length by rw [Wk.items, List.length_map, lb], List.take_length] at ea
          subst ea
          repeat walk_at "pi"
          refine eqTL (Ext.push.at (xh.at eq)) at_push fd ?_
          repeat walk_at "pi"
          exact ⟨(x01.trans xh).trans Ext.push, rfl⟩
  · subst ee
    exfalso
    rw [hlen] at hij
    cases rest with
    | nil =>
      obtain ⟨rfl, rfl⟩ := hj
      rw [List.append_nil] at er
      subst er
      rw [hGl, if_pos rfl] at hij
      omega
    | cons p rest =>
      have gl := graph_le (don := don) (rest := rest) (p := p)
      rw [← er] at gl
      have := hj.1
      omega
end
end K41
/-! ## Law_K41 -/
set_option Elab.async false
set_option linter.all false
set_option maxRecDepth 100000
set_option maxHeartbeats 4000000
set_option autoImplicit false
namespace K41
open PI
local macro_rules | `(tactic| walk_at "pi") => `(tactic| (
  first
  | (with_reducible refine PI.red ?_)
  | ((with_reducible show PI.Sat (PI.dVar _ _ _) _); refine Sat.var rfl ?_)
  | ((with_reducible show PI.Sat (PI.sAug _ _ _ _ _) _); refine Sat.aug rfl ?_)
  | ((with_reducible show PI.npK _ _ _); refine npK.mk rfl ?_)
  | ((with_reducible show PI.szK _ _); refine szK.mk (by simp only [List.length_cons, List.length_nil]; decide) ?_)
  | ((with_reducible show PI.isaK _ _ _ _); refine isaK.mk rfl ?_)
  | ((with_reducible show PI.ifK _ _ _); first | (refine ifK.t (by rfl) ?_) | (refine ifK.f (by rfl) ?_))
  | ((with_reducible show PI.Sat (PI.gTp _ _ _ _ _) _); refine Sat.gTp rfl ?_)
  | ((with_reducible show PI.Sat (PI.cIsB _ _ _) _); refine Sat.isB rfl ?_)
  | ((with_reducible show PI.Sat (PI.cNotB _ _ _) _); refine Sat.notB rfl ?_)
  | ((with_reducible show PI.Sat (PI.cIn _ (PI.D.tup _) _) _); refine Sat.inT rfl ?_)
  | ((with_reducible show PI.Sat (PI.cNin _ (PI.D.tup _) _) _); refine Sat.ninT rfl ?_)
  | ((with_reducible show PI.Sat (PI.cIsN _ _) _); refine Sat.isN rfl ?_)
  | ((with_reducible show PI.Sat (PI.cNotN _ _) _); refine Sat.notN rfl ?_)
  | ((with_reducible show PI.Sat (PI.oPow _ _ _) _); refine Sat.powI (by decide) ?_)))
theorem neLL {m n : Nat} {xs : List D} {h : Hh} {Q : D → Hh → Prop} (e1 : h[m]? = some (.lst xs)) (e2 : h[n]? = some (.lst xs)) (c1 : D.fitL xs = true) (q : Q (.bl false) h) : Sat (cNe (.ref m) (.ref n) h) Q := by
  have hf : D.flatL xs = true := by
    rw [D.fitL, Bool.and_eq_true] at c1
    exact c1.1
  have e : eqR h (.ref m) (.ref n) = some true := by
    have e0 : D.scal2 (.ref m) (.ref n) = false := rfl
    simp only [eqR, e0, listOf, lstAt, e1, e2, c1, eqvL_same xs hf]
    rfl
  simp only [cNe, e]
  exact .ok q
theorem TT.ext {h h' : Hh} (t : TT h) (x : Ext h h') : TT h' := by
  obtain ⟨xs, a, b, c, bu, h0, h1, r⟩ := t
  exact ⟨xs, a, b, c, bu, x.at h0, x.at h1, r⟩
theorem plain (ns : List Int) (hl : ns.length ≤ 63) (hb : ∀ z ∈ ns, z.natAbs.log2 < 1048576) : ∃ h', sem T 230 22 [.rl (ns.map D.int)] [] = .ok (.bl true) h' := by
  suffices s : Sat (sem T (229 + 1) 22 [.rl (ns.map D.int)] []) fun r _ => r = .bl true by
    obtain ⟨d, h', e, rfl⟩ := s
    exact ⟨h', e⟩
  refine sat_law ?_
  unfold b_law
  repeat walk_at "pi"
  refine (tape1_ok (f := 228) hTape hb).mono fun r h1 ⟨er, t1, _⟩ => ?_
  subst er
  repeat walk_at "pi"
  refine (hP.tk (f := 227) t1 (by decide)).mono fun r h2 ⟨t2, k2, dw, er, dw0, dw1⟩ => ?_
  subst er
  iterate 4 walk_at "pi"
  refine Sat.seq ?_
  refine Sat.mono (P := fun fl h' => ∃ (n : Nat) (k : Kd) (wd : Bool), (n = 1 ∨ n = 3) ∧ k.Ok n ∧ TT h' ∧ fl = .nx [some (.rl (ns.map D.int)), some (.ref 1), some (.bl wd), some k.enc, none, none, none, none, none, none, none]) ?_ ?_
  · repeat walk_at "pi"
    refine ifK.d (fun c => ?_) fun c => ?_
    · repeat walk_at "pi"
      refine (kind_ok hP 225 1 t2).mono fun r h3 ⟨t3, k3, k, er, ok⟩ => ?_
      subst er
      repeat walk_at "pi"
      exact ⟨1, k, _, .inl rfl, ok, t3, rfl⟩
    · repeat walk_at "pi"
      refine (kind_ok hP 223 3 t2).mono fun r h3 ⟨t3, k3, k, er, ok⟩ => ?_
      subst er
      repeat walk_at "pi"
      exact ⟨3, k, _, .inr rfl, ok, t3, rfl⟩
  intro fl h3 ⟨n, k, wd, hn, ok, t3, ef⟩
  subst ef
  have hn3 : n ≤ 3 := by omega
  refine seqK.nx ?_
  refine Sat.seq ?_
  refine Sat.mono (P := fun fl h' => ∃ (m : Nat), 1 ≤ m ∧ m ≤ 12 ∧ TT h' ∧ fl = .nx [some (.rl (ns.map D.int)), some (.ref 1), some (.bl wd), some k.enc, some (.int (m : Nat)), none, none, none, none, none, none]) ?_ ?_
  · repeat walk_at "pi"
    cases wd with
    | true =>
      repeat walk_at "pi"
      exact ⟨12, by omega, by omega, t3, rfl⟩
    | false =>
      repeat walk_at "pi"
      refine (hP.tk (f := 227) t3 (by decide)).mono fun r h4 ⟨t4, k4, d, er, d0, d1⟩ => ?_
      subst er
      repeat walk_at "pi"
      exact ⟨1 + d.toNat, by omega, by omega, t4, by rw [show ((1 + d.toNat : Nat) : Int) = 1 + d by omega]; rfl⟩
  intro fl h4 ⟨m, hm1, hm12, t4, ef⟩
  subst ef
  refine seqK.nx ?_
  repeat walk_at "pi"
  refine ⟨⟨by omega, by omega⟩, ?_⟩
  have em : ((m : Nat) : Int).toNat = m := by omega
  rw [em]
  refine Sat.compIx (fun i acc h' => TT h' ∧ ∃ ps : List Pt, acc = ps.map Pt.enc ∧ ps.length = i ∧ ∀ p ∈ ps, RowG n k p) ⟨t4, [], rfl, rfl, by simp⟩ (fun _ _ _ _ => rfl) (fun i d acc h5 hd ⟨t5, ps, ea, ei, hps⟩ => ?_) fun acc h5 ⟨t5, ps, ea, ei, hps⟩ => ?_
  · obtain ⟨hi, rfl⟩ := rng_at hd
    have hi : i < m := by simpa using hi
    repeat walk_at "pi"
    have l5 := t5.len
    have pk := pat_ok hP n 6 (219 - 7 * n) (h := h5 ++ [Ob.lst []]) (N := h5.length) t5.push ok l5 at_push (by simp) (by rcases hn with rfl | rfl <;> decide)
    rw [show 219 - 7 * n + 7 * n + 6 + 4 = 229 by omega] at pk
    refine pk.mono fun r h6 ⟨t6, b6, p, ns', e6, e7, e8, er, hp, hdp⟩ => ?_
    subst er ea
    refine ⟨by simp; unfold SL; omega, t6, ps ++ [p], by simp, by simp [ei], fun q hq => ?_⟩
    rcases List.mem_append.mp hq with z | z
    · exact hps q z
    · rw [List.mem_singleton.mp z]
      exact ⟨hp, by omega, Nat.le_trans e8 (by rcases hn with rfl | rfl <;> decide)⟩
  subst ea
  rw [rng_len] at ei
  obtain ⟨R, hRe⟩ : ∃ R, R = h5.length := ⟨_, rfl⟩
  have hR2 : 2 ≤ R := by have := t5.len; omega
  have eR : (h5 ++ [Ob.lst (ps.map Pt.enc)])[R]? = some (.lst (ps.map Pt.enc)) := by rw [hRe]; exact at_push
  have t6 : TT (h5 ++ [Ob.lst (ps.map Pt.enc)]) := t5.push
  rw [← hRe]
  generalize h5 ++ [Ob.lst (ps.map Pt.enc)] = h6 at eR t6
  clear hRe t5
  iterate 3 walk_at "pi"
  refine Sat.mono (P := fun fl h' => ∃ (ps : List Pt) (v10 : Option D), TT h' ∧ h'[R]? = some (.lst (ps.map Pt.enc)) ∧ 0 < ps.length ∧ ps.length ≤ 12 ∧ (∀ p ∈ ps, RowG n k p) ∧ fl = .nx [some (.rl (ns.map D.int)), some (.ref 1), some (.bl wd), some k.enc, some (.int (m : Nat)), some (.ref R), none, none, none, none, v10]) ?_ ?_
  · walk_at "pi"
    refine Sat.whGo (fun i e h' => TT h' ∧ ∃ (ps : List Pt) (v10 : Option D), h'[R]? = some (.lst (ps.map Pt.enc)) ∧ ps.length = i ∧ 0 < i ∧ i ≤ 12 ∧ (∀ p ∈ ps, RowG n k p) ∧ e = [some (.rl (ns.map D.int)), some (.ref 1), some (.bl wd), some k.enc, some (.int (m : Nat)), some (.ref R), none, none, none, none, v10]) ps.length ⟨t6, ps, none, eR, rfl, by omega, by omega, hps, rfl⟩ (fun i e h' ⟨t7, ps, v10, e7, e8, e80, e9, hps, ee⟩ => ?_) (by unfold WF; omega)
    subst ee
    repeat walk_at "pi"
    refine Sat.lenL e7 ?_
    repeat walk_at "pi"
    rw [List.length_map]
    refine ifK.d (fun c => ?_) fun c => ?_
    · repeat walk_at "pi"
      refine wsK.lst e7 ?_
      refine Sat.compGo (fun ds acc h'' => Ext h' h'' ∧ (∃ qs : List Pt, ds = qs.map Pt.enc ∧ ∀ q ∈ qs, RowG n k q) ∧ acc.length + ds.length = ps.length ∧ ∃ is : List Int, acc = is.map .int) ⟨Ext.refl _, ⟨ps, rfl, hps⟩, by simp, [], rfl⟩ (fun ds acc h'' ⟨x, _⟩ => still_of (x.at e7)) (fun d ds acc h'' ⟨x2, ⟨qs, ed, hq⟩, hln, is, ei⟩ => ?_) fun acc h'' ⟨x2, ⟨qs, ed, hq⟩, hln, is, ei⟩ => ?_
      · cases qs with
        | nil => cases ed
        | cons q qs =>
          obtain ⟨rfl, rfl⟩ := List.cons.inj ed
          have gq := hq q (by simp)
          have ft := ft_of gq.hp ok (by have := gq.dep; omega) hn3
          repeat walk_at "pi"
          refine (nodes_ok 60 168 (fl_flat q ft.fl) (p_slim gq.hp ok) ft.deep (Nat.le_refl _)).mono fun r h7 ⟨x3, j, er⟩ => ?_
          subst er ei
          simp only [List.length_cons] at hln
          exact ⟨by unfold SL; omega, x2.trans x3, ⟨qs, rfl, fun w hw => hq w (by simp [hw])⟩, by simp at hln ⊢; omega, is ++ [j], by simp⟩
      · subst ei
        refine Sat.fSum (intsOf_mp is) ?_
        repeat walk_at "pi"
        have e7' := x2.at e7
        have t8 := TT.ext t7 x2
        refine ifK.d (fun c2 => ?_) fun c2 => ?_
        · repeat walk_at "pi"
          refine lsK.mk e7' ?_
          repeat walk_at "pi"
          rcases List.eq_nil_or_concat ps with rfl | ⟨ps', q, rfl⟩
          · simp at c
          · rw [List.concat_eq_append] at *
            have e7'' : h''[R]? = some (.lst (ps'.map Pt.enc ++ [q.enc])) := by rw [e7']; simp
            refine Sat.pop e7'' ?_
            repeat walk_at "pi"
            exact ⟨ps'.length, by rw [← e8]; simp, t8.set hR2, ps', _, at_set e7'', rfl, by simp at c; omega, by simp at e8; omega, fun p hp => hps p (by simp [hp]), rfl⟩
        · exact ⟨ps, _, t8, e7', by omega, by omega, hps, rfl⟩
    · exact ⟨ps, _, t7, e7, by omega, by omega, hps, rfl⟩
  intro fl h7 ⟨ps, v10, t7, e7, hp0, hp12, hps, ef⟩
  subst ef
  clear eR t6 hb
  have fitR : D.fitL (ps.map Pt.enc) = true := by
    have each : ∀ d ∈ ps.map Pt.enc, d.flat = true ∧ d.deep ≤ 60 := fun d hd => by
      obtain ⟨q, hq, rfl⟩ := List.mem_map.mp hd
      have gq := hps q hq
      have ft := ft_of gq.hp ok (by have := gq.dep; omega) hn3
      exact ⟨fl_flat q ft.fl, ft.deep⟩
    have f1 : D.flatL (ps.map Pt.enc) = true := flatL_of fun d hd => (each d hd).1
    have f2 : D.deepL (ps.map Pt.enc) ≤ 60 := deepL_of fun d hd => (each d hd).2
    rw [D.fitL, f1, decide_eq_true f2]
    rfl
  refine seqK.nx ?_
  repeat walk_at "pi"
  refine Sat.lstL e7 ?_
  repeat walk_at "pi"
  have eH : (h7 ++ [Ob.lst (ps.map Pt.enc)])[h7.length]? = some (.lst (ps.map Pt.enc)) := at_push
  have eR1 : (h7 ++ [Ob.lst (ps.map Pt.enc)])[R]? = some (.lst (ps.map Pt.enc)) := Ext.push.at e7
  have t8 := t7.push (o := .lst (ps.map Pt.enc))
  refine (graph1_ok (f := 199) hn3 ok eH hp12 hps).mono fun r h8 ⟨x8, rs, b, er, hg⟩ => ?_
  subst er
  have hgo : GrOk ps rs b := hg
  have t9 := TT.ext t8 x8
  have eH9 := x8.at eH
  have eR9 := x8.at eR1
  repeat walk_at "pi"
  refine neLL eH9 eR9 fitR ?_
  repeat walk_at "pi"
  have fo := form_ok (f := 225) ok hn3 eR9 hp12 hps hgo (by cases ps <;> simp at hp0 ⊢)
  refine Sat.mono (show Sat (sem T 229 17 [.tup (graphN 0 0 rs ++ if b = true then [failD] else []), .ref R] h8) _ from fo) fun r h9 ⟨x9, er⟩ => ?_
  subst er
  have t10 := TT.ext t9 x9
  have eR10 := x9.at eR9
  repeat walk_at "pi"
  refine ⟨⟨by omega, by omega⟩, ?_⟩
  refine Sat.compIx (fun c acc h' => TT h' ∧ h'[R]? = some (.lst (ps.map Pt.enc)) ∧ acc = (List.replicate c true).map .bl) ⟨t10, eR10, rfl⟩ (fun _ _ _ _ => rfl) (fun c d acc h10 hd ⟨ta, ea1, ea⟩ => ?_) fun acc h10 ⟨ta, ea1, ea⟩ => ?_
  · obtain ⟨hi, rfl⟩ := rng_at hd
    repeat walk_at "pi"
    have l1 := ta.len
    have hm4 : numsAt num4 h10.length (h10 ++ [Ob.lst [D.int 4, .int 5, .int 6]]) := at_push
    have e229 : 225 - n + n + 4 = 229 := by omega
    have vk := val_ok hP n (225 - n) (num := num4) ta.push ok l1 hm4
    rw [e229] at vk
    refine vk.mono fun r h11 ⟨t11, k11, v, er, hv⟩ => ?_
    subst er
    have e11 := k11.at hR2 (Ext.push.at ea1)
    repeat walk_at "pi"
    have wk := walks_ok (v := v) ok hn3 (Kd.cl_inj num4_inj n k ok) num4_77 e11 hp12 hps hgo hv
    refine Sat.mono (show Sat (sem T 229 20 [.tup (graphN 0 0 rs ++ if b = true then [failD] else []), .ref R, v.enc] h11) _ from wk) fun r h12 ⟨x12, er⟩ => ?_
    subst er ea
    refine ⟨by simp; unfold SL; omega, TT.ext t11 x12, x12.at e11, by simp [List.replicate_succ']⟩
  · subst ea
    refine Sat.fAll (blsOf_map _) ?_
    repeat walk_at "pi"
    simp
end K41
/-! ## Wlk_K41 -/
set_option Elab.async false
set_option linter.all false
set_option maxRecDepth 100000
set_option maxHeartbeats 4000000
set_option autoImplicit false
/-! derivations of shapewright_k41_form_of_decision_graphs; printed by gen.py -/
namespace K41
open PySem L2 PI
def topS (i : Nat) : Stmt := PySem.Challenge.pw_shapewright_k41_form_of_decision_graphs.main.body.getD i (.Pass ⟨0, 0, 0, 0⟩)
abbrev st_walk_pattern : Stmt := topS 1
abbrev st_decision_graph : Stmt := topS 2
abbrev st__law_mix : Stmt := topS 4
abbrev st__law_tape : Stmt := topS 5
abbrev st__law_take : Stmt := topS 6
abbrev st__law_paths : Stmt := topS 7
abbrev st__law_integer : Stmt := topS 8
abbrev st__law_kind : Stmt := topS 9
abbrev st__law_pattern : Stmt := topS 10
abbrev st__law_value : Stmt := topS 11
abbrev st__law_number_of : Stmt := topS 12
abbrev st__law_fit : Stmt := topS 13
abbrev st__law_pairs : Stmt := topS 14
abbrev st__law_is_place : Stmt := topS 15
abbrev st__law_is_leaf : Stmt := topS 16
abbrev st__law_is_test : Stmt := topS 17
abbrev st__law_first : Stmt := topS 18
abbrev st__law_graph_form : Stmt := topS 19
abbrev st__law_tests : Stmt := topS 20
abbrev st__law_part_at : Stmt := topS 21
abbrev st__law_walks : Stmt := topS 22
abbrev st__law_nodes : Stmt := topS 23
abbrev st_law : Stmt := topS 24
theorem sc_walk_pattern : FnScope ["pattern", "place", "tests", "bindings", "tag", "at", "part"] ["pattern", "place", "tests", "bindings"] (defScope st_walk_pattern) := ⟨rfl, rfl, rfl, by decide +kernel, rfl, by decide +kernel, by decide +kernel⟩
theorem sc_decision_graph : FnScope ["rows", "nodes", "k", "pattern", "tests", "bindings", "after", "kind", "place", "key"] ["rows"] (defScope st_decision_graph) := ⟨rfl, rfl, rfl, by decide +kernel, rfl, by decide +kernel, by decide +kernel⟩
theorem sc__law_mix : FnScope ["number"] ["number"] (defScope st__law_mix) := ⟨rfl, rfl, rfl, by decide +kernel, rfl, by decide +kernel, by decide +kernel⟩
theorem sc__law_tape : FnScope ["script", "budget"] ["script", "budget"] (defScope st__law_tape) := ⟨rfl, rfl, rfl, by decide +kernel, rfl, by decide +kernel, by decide +kernel⟩
theorem sc__law_take : FnScope ["tape", "many", "cell", "digit"] ["tape", "many"] (defScope st__law_take) := ⟨rfl, rfl, rfl, by decide +kernel, rfl, by decide +kernel, by decide +kernel⟩
theorem sc__law_paths : FnScope [] [] (defScope st__law_paths) := ⟨rfl, rfl, rfl, by decide +kernel, rfl, by decide +kernel, by decide +kernel⟩
theorem sc__law_integer : FnScope ["tape", "many"] ["tape", "many"] (defScope st__law_integer) := ⟨rfl, rfl, rfl, by decide +kernel, rfl, by decide +kernel, by decide +kernel⟩
theorem sc__law_kind : FnScope ["tape", "deep", "draw", "many", "k", "rows", "path", "inner", "family", "inners", "has"] ["tape", "deep"] (defScope st__law_kind) := ⟨rfl, rfl, rfl, by decide +kernel, rfl, by decide +kernel, by decide +kernel⟩
theorem sc__law_pattern : FnScope ["tape", "kind", "names", "draw", "name", "path", "inner", "at", "part"] ["tape", "kind", "names"] (defScope st__law_pattern) := ⟨rfl, rfl, rfl, by decide +kernel, rfl, by decide +kernel, by decide +kernel⟩
theorem sc__law_value : FnScope ["tape", "kind", "numbers", "draw", "inner", "at", "part"] ["tape", "kind", "numbers"] (defScope st__law_value) := ⟨rfl, rfl, rfl, by decide +kernel, rfl, by decide +kernel, by decide +kernel⟩
theorem sc__law_number_of : FnScope ["path", "numbers"] ["path", "numbers"] (defScope st__law_number_of) := ⟨rfl, rfl, rfl, by decide +kernel, rfl, by decide +kernel, by decide +kernel⟩
theorem sc__law_fit : FnScope ["pattern", "value", "numbers", "found", "k", "same", "inner"] ["pattern", "value", "numbers", "found"] (defScope st__law_fit) := ⟨rfl, rfl, rfl, by decide +kernel, rfl, by decide +kernel, by decide +kernel⟩
theorem sc__law_pairs : FnScope ["numbers", "paths", "k"] ["numbers"] (defScope st__law_pairs) := ⟨rfl, rfl, rfl, by decide +kernel, rfl, by decide +kernel, by decide +kernel⟩
theorem sc__law_is_place : FnScope ["place", "step"] ["place"] (defScope st__law_is_place) := ⟨rfl, rfl, rfl, by decide +kernel, rfl, by decide +kernel, by decide +kernel⟩
theorem sc__law_is_leaf : FnScope ["node", "rows", "pair"] ["node", "rows"] (defScope st__law_is_leaf) := ⟨rfl, rfl, rfl, by decide +kernel, rfl, by decide +kernel, by decide +kernel⟩
theorem sc__law_is_test : FnScope ["node", "at", "many"] ["node", "at", "many"] (defScope st__law_is_test) := ⟨rfl, rfl, rfl, by decide +kernel, rfl, by decide +kernel, by decide +kernel⟩
theorem sc__law_first : FnScope ["rows", "value", "numbers", "k", "found"] ["rows", "value", "numbers"] (defScope st__law_first) := ⟨rfl, rfl, rfl, by decide +kernel, rfl, by decide +kernel, by decide +kernel⟩
theorem sc__law_graph_form : FnScope ["graph", "rows", "tests", "reached", "at", "node", "row"] ["graph", "rows"] (defScope st__law_graph_form) := ⟨rfl, rfl, rfl, by decide +kernel, rfl, by decide +kernel, by decide +kernel⟩
theorem sc__law_tests : FnScope ["pattern", "todo", "count", "part"] ["pattern"] (defScope st__law_tests) := ⟨rfl, rfl, rfl, by decide +kernel, rfl, by decide +kernel, by decide +kernel⟩
theorem sc__law_part_at : FnScope ["value", "place", "step"] ["value", "place"] (defScope st__law_part_at) := ⟨rfl, rfl, rfl, by decide +kernel, rfl, by decide +kernel, by decide +kernel⟩
theorem sc__law_walks : FnScope ["graph", "rows", "value", "due", "at", "turn", "node", "part", "key", "pair"] ["graph", "rows", "value"] (defScope st__law_walks) := ⟨rfl, rfl, rfl, by decide +kernel, rfl, by decide +kernel, by decide +kernel⟩
theorem sc__law_nodes : FnScope ["tree", "part"] ["tree"] (defScope st__law_nodes) := ⟨rfl, rfl, rfl, by decide +kernel, rfl, by decide +kernel, by decide +kernel⟩
theorem sc_law : FnScope ["script", "tape", "wide", "kind", "many", "rows", "handed", "graph", "k", "turn", "row"] ["script"] (defScope st_law) := ⟨rfl, rfl, rfl, by decide +kernel, rfl, by decide +kernel, by decide +kernel⟩
structure Tx (K : PySem.W.Frag) (mg : Str → Option Value) : Prop where
  m_all : mg "all" = none
  m_bool : mg "bool" = none
  m_enumerate : mg "enumerate" = none
  m_int : mg "int" = none
  m_isinstance : mg "isinstance" = none
  m_len : mg "len" = none
  m_list : mg "list" = none
  m_range : mg "range" = none
  m_str : mg "str" = none
  m_sum : mg "sum" = none
  m_tuple : mg "tuple" = none
section
variable {P : Program} {w : World} {K : PySem.W.Frag} {mg : Str → Option Value} {base : Heap} {G : Gx} {n : Nat} {c : Cal}
/-- the defs, called with room for n calls -/
structure Cs (P : Program) (w : World) (K : PySem.W.Frag) (mg : Str → Option Value) (base : Heap) (G : Gx) (n : Nat) (c : Cal) : Prop where
  c0 : CalOk P w K mg base G n "walk_pattern" 4 (c 0)
  c1 : CalOk P w K mg base G n "decision_graph" 1 (c 1)
  c2 : CalOk P w K mg base G n "_law_mix" 1 (c 2)
  c3 : CalOk P w K mg base G n "_law_tape" 2 (c 3)
  c4 : CalOk P w K mg base G n "_law_take" 2 (c 4)
  c5 : CalOk P w K mg base G n "_law_paths" 0 (c 5)
  c6 : CalOk P w K mg base G n "_law_integer" 2 (c 6)
  c7 : CalOk P w K mg base G n "_law_kind" 2 (c 7)
  c8 : CalOk P w K mg base G n "_law_pattern" 3 (c 8)
  c9 : CalOk P w K mg base G n "_law_value" 3 (c 9)
  c10 : CalOk P w K mg base G n "_law_number_of" 2 (c 10)
  c11 : CalOk P w K mg base G n "_law_fit" 4 (c 11)
  c12 : CalOk P w K mg base G n "_law_pairs" 1 (c 12)
  c13 : CalOk P w K mg base G n "_law_is_place" 1 (c 13)
  c14 : CalOk P w K mg base G n "_law_is_leaf" 2 (c 14)
  c15 : CalOk P w K mg base G n "_law_is_test" 3 (c 15)
  c16 : CalOk P w K mg base G n "_law_first" 3 (c 16)
  c17 : CalOk P w K mg base G n "_law_graph_form" 2 (c 17)
  c18 : CalOk P w K mg base G n "_law_tests" 1 (c 18)
  c19 : CalOk P w K mg base G n "_law_part_at" 2 (c 19)
  c20 : CalOk P w K mg base G n "_law_walks" 3 (c 20)
  c21 : CalOk P w K mg base G n "_law_nodes" 1 (c 21)
  c22 : CalOk P w K mg base G n "law" 1 (c 22)
theorem d_walk_pattern (hK : G.K = K) (T : Tx K mg) (C : Cs P w K mg base G n c) (f : Addr) (cdv : Value) (A : Around) (outer : List Env) (s : Shared) (H : Hp) (E : XK)
    (hr : Room n (A.deeper (PyProof.Rows.envOfC "walk_pattern" (defScope st_walk_pattern) s.heap.objs.size f cdv))) :
    PSs (cxOf (L2.CX P w) P w K mg base ["pattern", "place", "tests", "bindings", "tag", "at", "part"] "walk_pattern" (defScope st_walk_pattern) f cdv A outer s H E) (defBody st_walk_pattern) (tS G (fun cls d _ H => E cls d H) (b_walk_pattern c)) := by
  subst hK
  have sc_nd := sc_walk_pattern.nd
  have tk : Takes (cxOf (L2.CX P w) P w G.K mg base ["pattern", "place", "tests", "bindings", "tag", "at", "part"] "walk_pattern" (defScope st_walk_pattern) f cdv A outer s H E) (fun cls d _ H => E cls d H) := takes_of rfl rfl rfl rfl
  have po := passes_of (X := cxOf (L2.CX P w) P w G.K mg base ["pattern", "place", "tests", "bindings", "tag", "at", "part"] "walk_pattern" (defScope st_walk_pattern) f cdv A outer s H E) rfl
  exact
 (iss_cons (is_set 4 sc_nd (ie_ix rfl (ie_var 0) ie_int))
 (iss_one (is_if (it_cmp (os_eq rfl hr.units) (ie_var 4) (ie_str (s := s_var)))
 (iss_one (is_expr (ie_bm rfl ms_append PySem.F.slot_list_append PySem.F.type_list_append (ie_var 3) (ia_cons (ie_tup (ia_cons (ie_ix rfl (ie_var 0) ie_int) (ia_cons (ie_var 1) ia_nil))) ia_nil))))
 (iss_one (is_if (it_cmp (os_eq rfl hr.units) (ie_var 4) (ie_str (s := s_as)))
 (iss_cons (is_expr (ie_bm rfl ms_append PySem.F.slot_list_append PySem.F.type_list_append (ie_var 3) (ia_cons (ie_tup (ia_cons (ie_ix rfl (ie_var 0) ie_int) (ia_cons (ie_var 1) ia_nil))) ia_nil)))
 (iss_one (is_expr (ie_call (C.c0) hr tk (ia_cons (ie_ix rfl (ie_var 0) ie_int) (ia_cons (ie_var 1) (ia_cons (ie_var 2) (ia_cons (ie_var 3) ia_nil))))))))
 (iss_one (is_if (it_cmp (os_eq rfl hr.units) (ie_var 4) (ie_str (s := s_int)))
 (iss_one (is_expr (ie_bm rfl ms_append PySem.F.slot_list_append PySem.F.type_list_append (ie_var 2) (ia_cons (ie_tup (ia_cons (ie_str (s := s_integer)) (ia_cons (ie_var 1) (ia_cons (ie_ix rfl (ie_var 0) ie_int) ia_nil)))) ia_nil))))
 (iss_one (is_if (it_cmp (os_eq rfl hr.units) (ie_var 4) (ie_str (s := s_tuple)))
 (iss_one (is_for po rfl (iw_enum rfl (ie_ix rfl (ie_var 0) ie_int) T.m_enumerate) (ig_tup 2 rfl rfl (igs_cons 5 (ig_name 5 sc_nd) (igs_cons 6 (ig_name 6 sc_nd) igs_nil calm_nil) (calm_cons calm_nil)))
 (iss_one (is_expr (ie_call (C.c0) hr tk (ia_cons (ie_var 6) (ia_cons (ie_op (os_add rfl) (ie_var 1) (ie_tup (ia_cons (ie_var 5) ia_nil))) (ia_cons (ie_var 2) (ia_cons (ie_var 3) ia_nil)))))))))
 (iss_one (is_if (it_cmp (os_eq rfl hr.units) (ie_var 4) (ie_str (s := s_con)))
 (iss_cons (is_expr (ie_bm rfl ms_append PySem.F.slot_list_append PySem.F.type_list_append (ie_var 2) (ia_cons (ie_tup (ia_cons (ie_str (s := s_constructor)) (ia_cons (ie_var 1) (ia_cons (ie_ix rfl (ie_var 0) ie_int) ia_nil)))) ia_nil)))
 (iss_one (is_if (it_notN (ie_ix rfl (ie_var 0) ie_int))
 (iss_one (is_expr (ie_call (C.c0) hr tk (ia_cons (ie_ix rfl (ie_var 0) ie_int) (ia_cons (ie_op (os_add rfl) (ie_var 1) (ie_tup (ia_cons (ie_str (s := s_argument)) ia_nil))) (ia_cons (ie_var 2) (ia_cons (ie_var 3) ia_nil)))))))
 iss_nil)))
 (iss_one (is_if (it_cmp (os_eq rfl hr.units) (ie_var 4) (ie_str (s := s_packet)))
 (iss_cons (is_expr (ie_bm rfl ms_append PySem.F.slot_list_append PySem.F.type_list_append (ie_var 2) (ia_cons (ie_tup (ia_cons (ie_str (s := s_exception)) (ia_cons (ie_var 1) (ia_cons (ie_ix rfl (ie_var 0) ie_int) ia_nil)))) ia_nil)))
 (iss_one (is_if (it_notN (ie_ix rfl (ie_var 0) ie_int))
 (iss_one (is_expr (ie_call (C.c0) hr tk (ia_cons (ie_ix rfl (ie_var 0) ie_int) (ia_cons (ie_op (os_add rfl) (ie_var 1) (ie_tup (ia_cons (ie_str (s := s_argument)) ia_nil))) (ia_cons (ie_var 2) (ia_cons (ie_var 3) ia_nil)))))))
 iss_nil)))
 iss_nil)))))))))))))
theorem d_decision_graph (hK : G.K = K) (T : Tx K mg) (C : Cs P w K mg base G n c) (f : Addr) (cdv : Value) (A : Around) (outer : List Env) (s : Shared) (H : Hp) (E : XK)
    (hr : Room n (A.deeper (PyProof.Rows.envOfC "decision_graph" (defScope st_decision_graph) s.heap.objs.size f cdv))) :
    PSs (cxOf (L2.CX P w) P w K mg base ["rows", "nodes", "k", "pattern", "tests", "bindings", "after", "kind", "place", "key"] "decision_graph" (defScope st_decision_graph) f cdv A outer s H E) (defBody st_decision_graph) (tS G (fun cls d _ H => E cls d H) (b_decision_graph c)) := by
  subst hK
  have sc_nd := sc_decision_graph.nd
  have tk : Takes (cxOf (L2.CX P w) P w G.K mg base ["rows", "nodes", "k", "pattern", "tests", "bindings", "after", "kind", "place", "key"] "decision_graph" (defScope st_decision_graph) f cdv A outer s H E) (fun cls d _ H => E cls d H) := takes_of rfl rfl rfl rfl
  have po := passes_of (X := cxOf (L2.CX P w) P w G.K mg base ["rows", "nodes", "k", "pattern", "tests", "bindings", "after", "kind", "place", "key"] "decision_graph" (defScope st_decision_graph) f cdv A outer s H E) rfl
  exact
 (iss_cons (is_set 1 sc_nd (ie_lst ia_nil))
 (iss_cons (is_for po rfl (iw_enum rfl (ie_var 0) T.m_enumerate) (ig_tup 2 rfl rfl (igs_cons 2 (ig_name 2 sc_nd) (igs_cons 3 (ig_name 3 sc_nd) igs_nil calm_nil) (calm_cons calm_nil)))
 (iss_cons (is_set 4 sc_nd (ie_lst ia_nil))
 (iss_cons (is_set 5 sc_nd (ie_lst ia_nil))
 (iss_cons (is_expr (ie_call (C.c0) hr tk (ia_cons (ie_var 3) (ia_cons (ie_tup ia_nil) (ia_cons (ie_var 4) (ia_cons (ie_var 5) ia_nil))))))
 (iss_cons (is_set 6 sc_nd (ie_op (os_add rfl) (ie_op (os_add rfl) (ie_callB (cs_len rfl) (by rfl) T.m_len (by decide +kernel) (ia_cons (ie_var 1) ia_nil)) (ie_callB (cs_len rfl) (by rfl) T.m_len (by decide +kernel) (ia_cons (ie_var 4) ia_nil))) ie_int))
 (iss_cons (is_for po rfl (iw_seq rfl (ie_var 4)) (ig_tup 3 rfl rfl (igs_cons 7 (ig_name 7 sc_nd) (igs_cons 8 (ig_name 8 sc_nd) (igs_cons 9 (ig_name 9 sc_nd) igs_nil calm_nil) (calm_cons calm_nil)) (calm_cons (calm_cons calm_nil))))
 (iss_one (is_expr (ie_bm rfl ms_append PySem.F.slot_list_append PySem.F.type_list_append (ie_var 1) (ia_cons (ie_tup (ia_cons (ie_var 7) (ia_cons (ie_var 8) (ia_cons (ie_var 9) (ia_cons (ie_op (os_add rfl) (ie_callB (cs_len rfl) (by rfl) T.m_len (by decide +kernel) (ia_cons (ie_var 1) ia_nil)) ie_int) (ia_cons (ie_var 6) ia_nil)))))) ia_nil)))))
 (iss_cons (is_expr (ie_bm rfl ms_append PySem.F.slot_list_append PySem.F.type_list_append (ie_var 1) (ia_cons (ie_tup (ia_cons (ie_str (s := s_leaf)) (ia_cons (ie_var 2) (ia_cons (ie_callTy (cs_tuple rfl) (by rfl) T.m_tuple (by decide +kernel) (ia_cons (ie_var 5) ia_nil)) ia_nil)))) ia_nil)))
 (iss_one (is_if (it_not (it_truth rfl (ie_var 4)))
 (iss_one (is_ret (ie_callTy (cs_tuple rfl) (by rfl) T.m_tuple (by decide +kernel) (ia_cons (ie_var 1) ia_nil))))
 iss_nil)))))))))
 (iss_cons (is_expr (ie_bm rfl ms_append PySem.F.slot_list_append PySem.F.type_list_append (ie_var 1) (ia_cons (ie_tup (ia_cons (ie_str (s := s_fail)) ia_nil)) ia_nil)))
 (iss_one (is_ret (ie_callTy (cs_tuple rfl) (by rfl) T.m_tuple (by decide +kernel) (ia_cons (ie_var 1) ia_nil)))))))
theorem d__law_mix (hK : G.K = K) (T : Tx K mg) (C : Cs P w K mg base G n c) (f : Addr) (cdv : Value) (A : Around) (outer : List Env) (s : Shared) (H : Hp) (E : XK)
    (hr : Room n (A.deeper (PyProof.Rows.envOfC "_law_mix" (defScope st__law_mix) s.heap.objs.size f cdv))) :
    PSs (cxOf (L2.CX P w) P w K mg base ["number"] "_law_mix" (defScope st__law_mix) f cdv A outer s H E) (defBody st__law_mix) (tS G (fun cls d _ H => E cls d H) (b__law_mix c)) := by
  subst hK
  have sc_nd := sc__law_mix.nd
  have tk : Takes (cxOf (L2.CX P w) P w G.K mg base ["number"] "_law_mix" (defScope st__law_mix) f cdv A outer s H E) (fun cls d _ H => E cls d H) := takes_of rfl rfl rfl rfl
  have po := passes_of (X := cxOf (L2.CX P w) P w G.K mg base ["number"] "_law_mix" (defScope st__law_mix) f cdv A outer s H E) rfl
  exact
 (iss_cons (is_set 0 sc_nd (ie_op os_mod (ie_callTy (cs_int) (by rfl) T.m_int (by decide +kernel) (ia_cons (ie_op (os_add rfl) (ie_op os_mul (ie_var 0) ie_int) ie_int) ia_nil)) ie_int))
 (iss_one (is_ret (ie_op os_mod (ie_callTy (cs_int) (by rfl) T.m_int (by decide +kernel) (ia_cons (ie_op (os_add rfl) (ie_op os_div (ie_op os_mul (ie_var 0) (ie_var 0)) ie_int) (ie_op os_mul (ie_var 0) ie_int)) ia_nil)) ie_int))))
theorem d__law_tape (hK : G.K = K) (T : Tx K mg) (C : Cs P w K mg base G n c) (f : Addr) (cdv : Value) (A : Around) (outer : List Env) (s : Shared) (H : Hp) (E : XK)
    (hr : Room n (A.deeper (PyProof.Rows.envOfC "_law_tape" (defScope st__law_tape) s.heap.objs.size f cdv))) :
    PSs (cxOf (L2.CX P w) P w K mg base ["script", "budget"] "_law_tape" (defScope st__law_tape) f cdv A outer s H E) (defBody st__law_tape) (tS G (fun cls d _ H => E cls d H) (b__law_tape c)) := by
  subst hK
  have sc_nd := sc__law_tape.nd
  have tk : Takes (cxOf (L2.CX P w) P w G.K mg base ["script", "budget"] "_law_tape" (defScope st__law_tape) f cdv A outer s H E) (fun cls d _ H => E cls d H) := takes_of rfl rfl rfl rfl
  have po := passes_of (X := cxOf (L2.CX P w) P w G.K mg base ["script", "budget"] "_law_tape" (defScope st__law_tape) f cdv A outer s H E) rfl
  exact
 (iss_one (is_ret (ie_lst (ia_cons (ie_callTy (cs_list rfl) (by rfl) T.m_list (by decide +kernel) (ia_cons (ie_var 0) ia_nil)) (ia_cons ie_int (ia_cons ie_int (ia_cons ie_int (ia_cons (ie_var 1) ia_nil))))))))
theorem d__law_take (hK : G.K = K) (T : Tx K mg) (C : Cs P w K mg base G n c) (f : Addr) (cdv : Value) (A : Around) (outer : List Env) (s : Shared) (H : Hp) (E : XK)
    (hr : Room n (A.deeper (PyProof.Rows.envOfC "_law_take" (defScope st__law_take) s.heap.objs.size f cdv))) :
    PSs (cxOf (L2.CX P w) P w K mg base ["tape", "many", "cell", "digit"] "_law_take" (defScope st__law_take) f cdv A outer s H E) (defBody st__law_take) (tS G (fun cls d _ H => E cls d H) (b__law_take c)) := by
  subst hK
  have sc_nd := sc__law_take.nd
  have tk : Takes (cxOf (L2.CX P w) P w G.K mg base ["tape", "many", "cell", "digit"] "_law_take" (defScope st__law_take) f cdv A outer s H E) (fun cls d _ H => E cls d H) := takes_of rfl rfl rfl rfl
  have po := passes_of (X := cxOf (L2.CX P w) P w G.K mg base ["tape", "many", "cell", "digit"] "_law_take" (defScope st__law_take) f cdv A outer s H E) rfl
  exact
 (iss_cons (is_if (it_cmp os_lt (ie_ix rfl (ie_var 0) ie_int) (ie_var 1))
 (iss_one (is_if (it_cmp os_lt (ie_ix rfl (ie_var 0) ie_int) (ie_callB (cs_len rfl) (by rfl) T.m_len (by decide +kernel) (ia_cons (ie_ix rfl (ie_var 0) ie_int) ia_nil)))
 (iss_cons (is_set 2 sc_nd (ie_ix rfl (ie_ix rfl (ie_var 0) ie_int) (ie_ix rfl (ie_var 0) ie_int)))
 (iss_cons (is_set 2 sc_nd (ie_if (it_cmp os_ge (ie_var 2) ie_int) (ie_op os_mul ie_int (ie_var 2)) (ie_op os_sub (ie_op os_mul (ie_neg ie_int) (ie_var 2)) ie_int)))
 (iss_cons (is_asg (ie_op (os_add rfl) (ie_ix rfl (ie_var 0) ie_int) ie_int) (ig_sub (ie_var 0) ie_int))
 (iss_cons (is_asg (ie_call (C.c2) hr tk (ia_cons (ie_op (os_add rfl) (ie_ix rfl (ie_var 0) ie_int) (ie_var 2)) ia_nil)) (ig_sub (ie_var 0) ie_int))
 (iss_one (is_asg (ie_if (it_cmp os_ge (ie_var 2) (ie_op os_pow ie_int ie_int)) (ie_var 2) (ie_call (C.c2) hr tk (ia_cons (ie_call (C.c2) hr tk (ia_cons (ie_var 2) ia_nil)) ia_nil))) (ig_sub (ie_var 0) ie_int)))))))
 (iss_cons (is_asg (ie_call (C.c2) hr tk (ia_cons (ie_op (os_add rfl) (ie_ix rfl (ie_var 0) ie_int) ie_int) ia_nil)) (ig_sub (ie_var 0) ie_int))
 (iss_one (is_asg (ie_ix rfl (ie_var 0) ie_int) (ig_sub (ie_var 0) ie_int))))))
 iss_nil)
 (iss_cons (is_set 3 sc_nd (ie_op os_mod (ie_callTy (cs_int) (by rfl) T.m_int (by decide +kernel) (ia_cons (ie_ix rfl (ie_var 0) ie_int) ia_nil)) (ie_var 1)))
 (iss_cons (is_asg (ie_op os_div (ie_ix rfl (ie_var 0) ie_int) (ie_var 1)) (ig_sub (ie_var 0) ie_int))
 (iss_one (is_ret (ie_var 3))))))
theorem d__law_paths (hK : G.K = K) (T : Tx K mg) (C : Cs P w K mg base G n c) (f : Addr) (cdv : Value) (A : Around) (outer : List Env) (s : Shared) (H : Hp) (E : XK)
    (hr : Room n (A.deeper (PyProof.Rows.envOfC "_law_paths" (defScope st__law_paths) s.heap.objs.size f cdv))) :
    PSs (cxOf (L2.CX P w) P w K mg base [] "_law_paths" (defScope st__law_paths) f cdv A outer s H E) (defBody st__law_paths) (tS G (fun cls d _ H => E cls d H) (b__law_paths c)) := by
  subst hK
  have sc_nd := sc__law_paths.nd
  have tk : Takes (cxOf (L2.CX P w) P w G.K mg base [] "_law_paths" (defScope st__law_paths) f cdv A outer s H E) (fun cls d _ H => E cls d H) := takes_of rfl rfl rfl rfl
  have po := passes_of (X := cxOf (L2.CX P w) P w G.K mg base [] "_law_paths" (defScope st__law_paths) f cdv A outer s H E) rfl
  exact
 (iss_one (is_ret (ie_lst (ia_cons (ie_tup (ia_cons (ie_str (s := s_var)) (ia_cons (ie_str (s := s_p)) ia_nil))) (ia_cons (ie_tup (ia_cons (ie_str (s := s_field)) (ia_cons (ie_str (s := s_q)) (ia_cons (ie_tup (ia_cons (ie_str (s := s_var)) (ia_cons (ie_str (s := s_m)) ia_nil))) ia_nil)))) (ia_cons (ie_tup (ia_cons (ie_str (s := s_field)) (ia_cons (ie_str (s := s_q)) (ia_cons (ie_tup (ia_cons (ie_str (s := s_field)) (ia_cons (ie_str (s := s_s)) (ia_cons (ie_tup (ia_cons (ie_str (s := s_var)) (ia_cons (ie_str (s := s_m)) ia_nil))) ia_nil)))) ia_nil)))) ia_nil))))))
theorem d__law_integer (hK : G.K = K) (T : Tx K mg) (C : Cs P w K mg base G n c) (f : Addr) (cdv : Value) (A : Around) (outer : List Env) (s : Shared) (H : Hp) (E : XK)
    (hr : Room n (A.deeper (PyProof.Rows.envOfC "_law_integer" (defScope st__law_integer) s.heap.objs.size f cdv))) :
    PSs (cxOf (L2.CX P w) P w K mg base ["tape", "many"] "_law_integer" (defScope st__law_integer) f cdv A outer s H E) (defBody st__law_integer) (tS G (fun cls d _ H => E cls d H) (b__law_integer c)) := by
  subst hK
  have sc_nd := sc__law_integer.nd
  have tk : Takes (cxOf (L2.CX P w) P w G.K mg base ["tape", "many"] "_law_integer" (defScope st__law_integer) f cdv A outer s H E) (fun cls d _ H => E cls d H) := takes_of rfl rfl rfl rfl
  have po := passes_of (X := cxOf (L2.CX P w) P w G.K mg base ["tape", "many"] "_law_integer" (defScope st__law_integer) f cdv A outer s H E) rfl
  exact
 (iss_cons (is_if (it_cmp (os_eq rfl hr.units) (ie_call (C.c4) hr tk (ia_cons (ie_var 0) (ia_cons ie_int ia_nil))) ie_int)
 (iss_one (is_ret (ie_ix rfl (ie_lst (ia_cons (ie_neg ie_int) (ia_cons ie_int (ia_cons ie_int (ia_cons ie_int (ia_cons ie_int (ia_cons (ie_neg ie_int) (ia_cons ie_int (ia_cons (ie_neg ie_int) ia_nil))))))))) (ie_call (C.c4) hr tk (ia_cons (ie_var 0) (ia_cons ie_int ia_nil))))))
 iss_nil)
 (iss_one (is_ret (ie_op os_sub (ie_call (C.c4) hr tk (ia_cons (ie_var 0) (ia_cons (ie_var 1) ia_nil))) ie_int))))
theorem d__law_kind (hK : G.K = K) (T : Tx K mg) (C : Cs P w K mg base G n c) (f : Addr) (cdv : Value) (A : Around) (outer : List Env) (s : Shared) (H : Hp) (E : XK)
    (hr : Room n (A.deeper (PyProof.Rows.envOfC "_law_kind" (defScope st__law_kind) s.heap.objs.size f cdv))) :
    PSs (cxOf (L2.CX P w) P w K mg base ["tape", "deep", "draw", "many", "k", "rows", "path", "inner", "family", "inners", "has"] "_law_kind" (defScope st__law_kind) f cdv A outer s H E) (defBody st__law_kind) (tS G (fun cls d _ H => E cls d H) (b__law_kind c)) := by
  subst hK
  have sc_nd := sc__law_kind.nd
  have tk : Takes (cxOf (L2.CX P w) P w G.K mg base ["tape", "deep", "draw", "many", "k", "rows", "path", "inner", "family", "inners", "has"] "_law_kind" (defScope st__law_kind) f cdv A outer s H E) (fun cls d _ H => E cls d H) := takes_of rfl rfl rfl rfl
  have po := passes_of (X := cxOf (L2.CX P w) P w G.K mg base ["tape", "deep", "draw", "many", "k", "rows", "path", "inner", "family", "inners", "has"] "_law_kind" (defScope st__law_kind) f cdv A outer s H E) rfl
  exact
 (iss_cons (is_set 2 sc_nd (ie_if (it_cmp os_gt (ie_var 1) ie_int) (ie_call (C.c4) hr tk (ia_cons (ie_var 0) (ia_cons ie_int ia_nil))) ie_int))
 (iss_cons (is_if (it_cmp (os_eq rfl hr.units) (ie_var 2) ie_int)
 (iss_one (is_ret (ie_tup (ia_cons (ie_str (s := s_int)) ia_nil))))
 iss_nil)
 (iss_cons (is_if (it_cmp (os_eq rfl hr.units) (ie_var 2) ie_int)
 (iss_cons (is_set 3 sc_nd (ie_ix rfl (ie_lst (ia_cons ie_int (ia_cons ie_int (ia_cons ie_int (ia_cons ie_int ia_nil))))) (ie_call (C.c4) hr tk (ia_cons (ie_var 0) (ia_cons ie_int ia_nil)))))
 (iss_cons (is_if (PW.pt (iw_and (it_cmp (os_eq rfl hr.units) (ie_var 1) ie_int) (iw_and1 (it_cmp (os_eq rfl hr.units) (ie_call (C.c4) hr tk (ia_cons (ie_var 0) (ia_cons ie_int ia_nil))) ie_int))))
 (iss_one (is_set 3 sc_nd (ie_op (os_add rfl) ie_int (ie_call (C.c4) hr tk (ia_cons (ie_var 0) (ia_cons ie_int ia_nil))))))
 iss_nil)
 (iss_one (is_ret (ie_tup (ia_cons (ie_str (s := s_tuple)) (ia_cons (ie_tupC rfl rfl sc_nd (CompOk.mk (own := [("k", 4)]) ⟨_, gv_name _ 4, fun _ _ _ _ _ => pg_name (i := 4) sc_nd rfl (by first | exact .inl rfl | exact .inr rfl)⟩ (iw_rng1 (ie_var 3) T.m_range) (blkOk_by (show blkC ["tape", "deep", "draw", "many", "k", "rows", "path", "inner", "family", "inners", "has"] (defScope st__law_kind) _ _ = true by decide +kernel)) (fun _ _ _ _ _ => its_nil) (fun _ _ _ _ _ => (ie_call (C.c7) hr takes0 (ia_cons (ie_var 0) (ia_cons (ie_op os_sub (ie_var 1) ie_int) ia_nil)))) (by intro _; rfl)) T.m_tuple) ia_nil)))))))
 iss_nil)
 (iss_cons (is_if (it_cmp (os_eq rfl hr.units) (ie_var 2) ie_int)
 (iss_cons (is_set 5 sc_nd (ie_lst ia_nil))
 (iss_cons (is_for po rfl (iw_seq rfl (ie_call0 (C.c5) hr)) (ig_name 6 sc_nd)
 (iss_cons (is_set 7 sc_nd ie_non)
 (iss_cons (is_if (it_cmp (os_eq rfl hr.units) (ie_call (C.c4) hr tk (ia_cons (ie_var 0) (ia_cons ie_int ia_nil))) ie_int)
 (iss_one (is_set 7 sc_nd (ie_call (C.c7) hr tk (ia_cons (ie_var 0) (ia_cons (ie_op os_sub (ie_var 1) ie_int) ia_nil)))))
 iss_nil)
 (iss_one (is_expr (ie_bm rfl ms_append PySem.F.slot_list_append PySem.F.type_list_append (ie_var 5) (ia_cons (ie_tup (ia_cons (ie_var 6) (ia_cons (ie_var 7) ia_nil))) ia_nil)))))))
 (iss_one (is_ret (ie_tup (ia_cons (ie_str (s := s_packet)) (ia_cons (ie_callTy (cs_tuple rfl) (by rfl) T.m_tuple (by decide +kernel) (ia_cons (ie_var 5) ia_nil)) ia_nil)))))))
 iss_nil)
 (iss_cons (is_set 8 sc_nd (ie_lst ia_nil))
 (iss_cons (is_set 9 sc_nd (ie_lst ia_nil))
 (iss_cons (is_set 3 sc_nd (ie_op (os_add rfl) ie_int (ie_call (C.c4) hr tk (ia_cons (ie_var 0) (ia_cons ie_int ia_nil)))))
 (iss_cons (is_if (it_cmp (os_eq rfl hr.units) (ie_call (C.c4) hr tk (ia_cons (ie_var 0) (ia_cons ie_int ia_nil))) ie_int)
 (iss_one (is_set 3 sc_nd (ie_op (os_add rfl) ie_int (ie_call (C.c4) hr tk (ia_cons (ie_var 0) (ia_cons ie_int ia_nil))))))
 iss_nil)
 (iss_cons (is_for po rfl (iw_rng1 (ie_var 3) T.m_range) (ig_name 4 sc_nd)
 (iss_cons (is_set 10 sc_nd (ie_cmp (os_eq rfl hr.units) (ie_call (C.c4) hr tk (ia_cons (ie_var 0) (ia_cons ie_int ia_nil))) ie_int))
 (iss_cons (is_expr (ie_bm rfl ms_append PySem.F.slot_list_append PySem.F.type_list_append (ie_var 8) (ia_cons (ie_tup (ia_cons (ie_ix rfl (ie_str (s := s_ABCDEFGHIJKL)) (ie_var 4)) (ia_cons (ie_var 10) ia_nil))) ia_nil)))
 (iss_one (is_expr (ie_bm rfl ms_append PySem.F.slot_list_append PySem.F.type_list_append (ie_var 9) (ia_cons (ie_if (it_truth rfl (ie_var 10)) (ie_call (C.c7) hr tk (ia_cons (ie_var 0) (ia_cons (ie_op os_sub (ie_var 1) ie_int) ia_nil))) ie_non) ia_nil)))))))
 (iss_one (is_ret (ie_tup (ia_cons (ie_str (s := s_con)) (ia_cons (ie_callTy (cs_tuple rfl) (by rfl) T.m_tuple (by decide +kernel) (ia_cons (ie_var 8) ia_nil)) (ia_cons (ie_callTy (cs_tuple rfl) (by rfl) T.m_tuple (by decide +kernel) (ia_cons (ie_var 9) ia_nil)) ia_nil)))))))))))))))
theorem d__law_pattern (hK : G.K = K) (T : Tx K mg) (C : Cs P w K mg base G n c) (f : Addr) (cdv : Value) (A : Around) (outer : List Env) (s : Shared) (H : Hp) (E : XK)
    (hr : Room n (A.deeper (PyProof.Rows.envOfC "_law_pattern" (defScope st__law_pattern) s.heap.objs.size f cdv))) :
    PSs (cxOf (L2.CX P w) P w K mg base ["tape", "kind", "names", "draw", "name", "path", "inner", "at", "part"] "_law_pattern" (defScope st__law_pattern) f cdv A outer s H E) (defBody st__law_pattern) (tS G (fun cls d _ H => E cls d H) (b__law_pattern c)) := by
  subst hK
  have sc_nd := sc__law_pattern.nd
  have tk : Takes (cxOf (L2.CX P w) P w G.K mg base ["tape", "kind", "names", "draw", "name", "path", "inner", "at", "part"] "_law_pattern" (defScope st__law_pattern) f cdv A outer s H E) (fun cls d _ H => E cls d H) := takes_of rfl rfl rfl rfl
  have po := passes_of (X := cxOf (L2.CX P w) P w G.K mg base ["tape", "kind", "names", "draw", "name", "path", "inner", "at", "part"] "_law_pattern" (defScope st__law_pattern) f cdv A outer s H E) rfl
  exact
 (iss_cons (is_set 3 sc_nd (ie_call (C.c4) hr tk (ia_cons (ie_var 0) (ia_cons ie_int ia_nil))))
 (iss_cons (is_if (it_cmp (os_eq rfl hr.units) (ie_var 3) ie_int)
 (iss_one (is_ret (ie_tup (ia_cons (ie_str (s := s_any)) ia_nil))))
 iss_nil)
 (iss_cons (is_if (it_cmp (os_eq rfl hr.units) (ie_var 3) ie_int)
 (iss_cons (is_expr (ie_bm rfl ms_append PySem.F.slot_list_append PySem.F.type_list_append (ie_var 2) (ia_cons (ie_op (os_add rfl) (ie_str (s := s_v)) (ie_callTy (cs_str) (by rfl) T.m_str (by decide +kernel) (ia_cons (ie_callB (cs_len rfl) (by rfl) T.m_len (by decide +kernel) (ia_cons (ie_var 2) ia_nil)) ia_nil))) ia_nil)))
 (iss_one (is_ret (ie_tup (ia_cons (ie_str (s := s_var)) (ia_cons (ie_ix rfl (ie_var 2) (ie_neg ie_int)) ia_nil))))))
 iss_nil)
 (iss_cons (is_if (PW.pt (iw_and (it_cmp (os_eq rfl hr.units) (ie_var 3) ie_int) (iw_and1 (it_cmp os_lt (ie_callB (cs_len rfl) (by rfl) T.m_len (by decide +kernel) (ia_cons (ie_var 2) ia_nil)) ie_int))))
 (iss_cons (is_expr (ie_bm rfl ms_append PySem.F.slot_list_append PySem.F.type_list_append (ie_var 2) (ia_cons (ie_op (os_add rfl) (ie_str (s := s_v)) (ie_callTy (cs_str) (by rfl) T.m_str (by decide +kernel) (ia_cons (ie_callB (cs_len rfl) (by rfl) T.m_len (by decide +kernel) (ia_cons (ie_var 2) ia_nil)) ia_nil))) ia_nil)))
 (iss_cons (is_set 4 sc_nd (ie_ix rfl (ie_var 2) (ie_neg ie_int)))
 (iss_one (is_ret (ie_tup (ia_cons (ie_str (s := s_as)) (ia_cons (ie_var 4) (ia_cons (ie_call (C.c8) hr tk (ia_cons (ie_var 0) (ia_cons (ie_var 1) (ia_cons (ie_var 2) ia_nil)))) ia_nil))))))))
 iss_nil)
 (iss_cons (is_if (it_cmp (os_eq rfl hr.units) (ie_ix rfl (ie_var 1) ie_int) (ie_str (s := s_int)))
 (iss_one (is_ret (ie_tup (ia_cons (ie_str (s := s_int)) (ia_cons (ie_call (C.c6) hr tk (ia_cons (ie_var 0) (ia_cons ie_int ia_nil))) ia_nil)))))
 iss_nil)
 (iss_cons (is_if (it_cmp (os_eq rfl hr.units) (ie_ix rfl (ie_var 1) ie_int) (ie_str (s := s_tuple)))
 (iss_one (is_ret (ie_tup (ia_cons (ie_str (s := s_tuple)) (ia_cons (ie_tupC rfl rfl sc_nd (CompOk.mk (own := [("part", 8)]) ⟨_, gv_name _ 8, fun _ _ _ _ _ => pg_name (i := 8) sc_nd rfl (by first | exact .inl rfl | exact .inr rfl)⟩ (iw_seq rfl (ie_ix rfl (ie_var 1) ie_int)) (blkOk_by (show blkC ["tape", "kind", "names", "draw", "name", "path", "inner", "at", "part"] (defScope st__law_pattern) _ _ = true by decide +kernel)) (fun _ _ _ _ _ => its_nil) (fun _ _ _ _ _ => (ie_call (C.c8) hr takes0 (ia_cons (ie_var 0) (ia_cons (ie_var 8) (ia_cons (ie_var 2) ia_nil))))) (by intro _; rfl)) T.m_tuple) ia_nil)))))
 iss_nil)
 (iss_cons (is_if (it_cmp (os_eq rfl hr.units) (ie_ix rfl (ie_var 1) ie_int) (ie_str (s := s_packet)))
 (iss_cons (is_asg (ie_ix rfl (ie_ix rfl (ie_var 1) ie_int) (ie_call (C.c4) hr tk (ia_cons (ie_var 0) (ia_cons ie_int ia_nil)))) (ig_tup 2 rfl rfl (igs_cons 5 (ig_name 5 sc_nd) (igs_cons 6 (ig_name 6 sc_nd) igs_nil calm_nil) (calm_cons calm_nil))))
 (iss_one (is_ret (ie_tup (ia_cons (ie_str (s := s_packet)) (ia_cons (ie_var 5) (ia_cons (ie_if (it_isN (ie_var 6)) ie_non (ie_call (C.c8) hr tk (ia_cons (ie_var 0) (ia_cons (ie_var 6) (ia_cons (ie_var 2) ia_nil))))) ia_nil)))))))
 iss_nil)
 (iss_cons (is_set 7 sc_nd (ie_call (C.c4) hr tk (ia_cons (ie_var 0) (ia_cons (ie_callB (cs_len rfl) (by rfl) T.m_len (by decide +kernel) (ia_cons (ie_ix rfl (ie_var 1) ie_int) ia_nil)) ia_nil))))
 (iss_cons (is_set 6 sc_nd (ie_ix rfl (ie_ix rfl (ie_var 1) ie_int) (ie_var 7)))
 (iss_one (is_ret (ie_tup (ia_cons (ie_str (s := s_con)) (ia_cons (ie_ix rfl (ie_var 1) ie_int) (ia_cons (ie_var 7) (ia_cons (ie_if (it_isN (ie_var 6)) ie_non (ie_call (C.c8) hr tk (ia_cons (ie_var 0) (ia_cons (ie_var 6) (ia_cons (ie_var 2) ia_nil))))) ia_nil))))))))))))))))
theorem d__law_value (hK : G.K = K) (T : Tx K mg) (C : Cs P w K mg base G n c) (f : Addr) (cdv : Value) (A : Around) (outer : List Env) (s : Shared) (H : Hp) (E : XK)
    (hr : Room n (A.deeper (PyProof.Rows.envOfC "_law_value" (defScope st__law_value) s.heap.objs.size f cdv))) :
    PSs (cxOf (L2.CX P w) P w K mg base ["tape", "kind", "numbers", "draw", "inner", "at", "part"] "_law_value" (defScope st__law_value) f cdv A outer s H E) (defBody st__law_value) (tS G (fun cls d _ H => E cls d H) (b__law_value c)) := by
  subst hK
  have sc_nd := sc__law_value.nd
  have tk : Takes (cxOf (L2.CX P w) P w G.K mg base ["tape", "kind", "numbers", "draw", "inner", "at", "part"] "_law_value" (defScope st__law_value) f cdv A outer s H E) (fun cls d _ H => E cls d H) := takes_of rfl rfl rfl rfl
  have po := passes_of (X := cxOf (L2.CX P w) P w G.K mg base ["tape", "kind", "numbers", "draw", "inner", "at", "part"] "_law_value" (defScope st__law_value) f cdv A outer s H E) rfl
  exact
 (iss_cons (is_if (it_cmp (os_eq rfl hr.units) (ie_ix rfl (ie_var 1) ie_int) (ie_str (s := s_int)))
 (iss_one (is_ret (ie_tup (ia_cons (ie_str (s := s_int)) (ia_cons (ie_call (C.c6) hr tk (ia_cons (ie_var 0) (ia_cons ie_int ia_nil))) ia_nil)))))
 iss_nil)
 (iss_cons (is_if (it_cmp (os_eq rfl hr.units) (ie_ix rfl (ie_var 1) ie_int) (ie_str (s := s_tuple)))
 (iss_one (is_ret (ie_tup (ia_cons (ie_str (s := s_tuple)) (ia_cons (ie_tupC rfl rfl sc_nd (CompOk.mk (own := [("part", 6)]) ⟨_, gv_name _ 6, fun _ _ _ _ _ => pg_name (i := 6) sc_nd rfl (by first | exact .inl rfl | exact .inr rfl)⟩ (iw_seq rfl (ie_ix rfl (ie_var 1) ie_int)) (blkOk_by (show blkC ["tape", "kind", "numbers", "draw", "inner", "at", "part"] (defScope st__law_value) _ _ = true by decide +kernel)) (fun _ _ _ _ _ => its_nil) (fun _ _ _ _ _ => (ie_call (C.c9) hr takes0 (ia_cons (ie_var 0) (ia_cons (ie_var 6) (ia_cons (ie_var 2) ia_nil))))) (by intro _; rfl)) T.m_tuple) ia_nil)))))
 iss_nil)
 (iss_cons (is_if (it_cmp (os_eq rfl hr.units) (ie_ix rfl (ie_var 1) ie_int) (ie_str (s := s_packet)))
 (iss_cons (is_set 3 sc_nd (ie_call (C.c4) hr tk (ia_cons (ie_var 0) (ia_cons ie_int ia_nil))))
 (iss_cons (is_if (it_cmp (os_eq rfl hr.units) (ie_var 3) ie_int)
 (iss_one (is_ret (ie_tup (ia_cons (ie_str (s := s_packet)) (ia_cons ie_int (ia_cons (ie_str (s := s_E)) (ia_cons ie_non ia_nil)))))))
 iss_nil)
 (iss_cons (is_set 4 sc_nd (ie_ix rfl (ie_ix rfl (ie_ix rfl (ie_var 1) ie_int) (ie_var 3)) ie_int))
 (iss_one (is_ret (ie_tup (ia_cons (ie_str (s := s_packet)) (ia_cons (ie_ix rfl (ie_var 2) (ie_var 3)) (ia_cons (ie_str (s := s_E)) (ia_cons (ie_if (it_isN (ie_var 4)) ie_non (ie_call (C.c9) hr tk (ia_cons (ie_var 0) (ia_cons (ie_var 4) (ia_cons (ie_var 2) ia_nil))))) ia_nil))))))))))
 iss_nil)
 (iss_cons (is_set 5 sc_nd (ie_call (C.c4) hr tk (ia_cons (ie_var 0) (ia_cons (ie_callB (cs_len rfl) (by rfl) T.m_len (by decide +kernel) (ia_cons (ie_ix rfl (ie_var 1) ie_int) ia_nil)) ia_nil))))
 (iss_cons (is_set 4 sc_nd (ie_ix rfl (ie_ix rfl (ie_var 1) ie_int) (ie_var 5)))
 (iss_one (is_ret (ie_tup (ia_cons (ie_str (s := s_con)) (ia_cons (ie_var 5) (ia_cons (ie_ix rfl (ie_ix rfl (ie_ix rfl (ie_var 1) ie_int) (ie_var 5)) ie_int) (ia_cons (ie_if (it_isN (ie_var 4)) ie_non (ie_call (C.c9) hr tk (ia_cons (ie_var 0) (ia_cons (ie_var 4) (ia_cons (ie_var 2) ia_nil))))) ia_nil))))))))))))
theorem d__law_number_of (hK : G.K = K) (T : Tx K mg) (C : Cs P w K mg base G n c) (f : Addr) (cdv : Value) (A : Around) (outer : List Env) (s : Shared) (H : Hp) (E : XK)
    (hr : Room n (A.deeper (PyProof.Rows.envOfC "_law_number_of" (defScope st__law_number_of) s.heap.objs.size f cdv))) :
    PSs (cxOf (L2.CX P w) P w K mg base ["path", "numbers"] "_law_number_of" (defScope st__law_number_of) f cdv A outer s H E) (defBody st__law_number_of) (tS G (fun cls d _ H => E cls d H) (b__law_number_of c)) := by
  subst hK
  have sc_nd := sc__law_number_of.nd
  have tk : Takes (cxOf (L2.CX P w) P w G.K mg base ["path", "numbers"] "_law_number_of" (defScope st__law_number_of) f cdv A outer s H E) (fun cls d _ H => E cls d H) := takes_of rfl rfl rfl rfl
  have po := passes_of (X := cxOf (L2.CX P w) P w G.K mg base ["path", "numbers"] "_law_number_of" (defScope st__law_number_of) f cdv A outer s H E) rfl
  exact
 (iss_one (is_ret (ie_ix rfl (ie_var 1) (ie_bm rfl (ms_index rfl (hu65 hr)) PySem.F.slot_list_index PySem.F.type_list_index (ie_call0 (C.c5) hr) (ia_cons (ie_var 0) ia_nil)))))
theorem d__law_fit (hK : G.K = K) (T : Tx K mg) (C : Cs P w K mg base G n c) (f : Addr) (cdv : Value) (A : Around) (outer : List Env) (s : Shared) (H : Hp) (E : XK)
    (hr : Room n (A.deeper (PyProof.Rows.envOfC "_law_fit" (defScope st__law_fit) s.heap.objs.size f cdv))) :
    PSs (cxOf (L2.CX P w) P w K mg base ["pattern", "value", "numbers", "found", "k", "same", "inner"] "_law_fit" (defScope st__law_fit) f cdv A outer s H E) (defBody st__law_fit) (tS G (fun cls d _ H => E cls d H) (b__law_fit c)) := by
  subst hK
  have sc_nd := sc__law_fit.nd
  have tk : Takes (cxOf (L2.CX P w) P w G.K mg base ["pattern", "value", "numbers", "found", "k", "same", "inner"] "_law_fit" (defScope st__law_fit) f cdv A outer s H E) (fun cls d _ H => E cls d H) := takes_of rfl rfl rfl rfl
  have po := passes_of (X := cxOf (L2.CX P w) P w G.K mg base ["pattern", "value", "numbers", "found", "k", "same", "inner"] "_law_fit" (defScope st__law_fit) f cdv A outer s H E) rfl
  exact
 (iss_cons (is_if (it_cmp (os_eq rfl hr.units) (ie_ix rfl (ie_var 0) ie_int) (ie_str (s := s_any)))
 (iss_one (is_ret ie_bl))
 iss_nil)
 (iss_cons (is_if (it_cmp (os_eq rfl hr.units) (ie_ix rfl (ie_var 0) ie_int) (ie_str (s := s_var)))
 (iss_cons (is_expr (ie_bm rfl ms_append PySem.F.slot_list_append PySem.F.type_list_append (ie_var 3) (ia_cons (ie_tup (ia_cons (ie_ix rfl (ie_var 0) ie_int) (ia_cons (ie_var 1) ia_nil))) ia_nil)))
 (iss_one (is_ret ie_bl)))
 iss_nil)
 (iss_cons (is_if (it_cmp (os_eq rfl hr.units) (ie_ix rfl (ie_var 0) ie_int) (ie_str (s := s_as)))
 (iss_cons (is_expr (ie_bm rfl ms_append PySem.F.slot_list_append PySem.F.type_list_append (ie_var 3) (ia_cons (ie_tup (ia_cons (ie_ix rfl (ie_var 0) ie_int) (ia_cons (ie_var 1) ia_nil))) ia_nil)))
 (iss_one (is_ret (ie_call (C.c11) hr tk (ia_cons (ie_ix rfl (ie_var 0) ie_int) (ia_cons (ie_var 1) (ia_cons (ie_var 2) (ia_cons (ie_var 3) ia_nil))))))))
 iss_nil)
 (iss_cons (is_if (it_cmp (os_eq rfl hr.units) (ie_ix rfl (ie_var 0) ie_int) (ie_str (s := s_int)))
 (iss_one (is_ret (ie_cmp (os_eq rfl hr.units) (ie_ix rfl (ie_var 1) ie_int) (ie_ix rfl (ie_var 0) ie_int))))
 iss_nil)
 (iss_cons (is_if (it_cmp (os_eq rfl hr.units) (ie_ix rfl (ie_var 0) ie_int) (ie_str (s := s_tuple)))
 (iss_cons (is_for po rfl (iw_rng1 (ie_callB (cs_len rfl) (by rfl) T.m_len (by decide +kernel) (ia_cons (ie_ix rfl (ie_var 0) ie_int) ia_nil)) T.m_range) (ig_name 4 sc_nd)
 (iss_one (is_if (it_not (it_truth rfl (ie_call (C.c11) hr tk (ia_cons (ie_ix rfl (ie_ix rfl (ie_var 0) ie_int) (ie_var 4)) (ia_cons (ie_ix rfl (ie_ix rfl (ie_var 1) ie_int) (ie_var 4)) (ia_cons (ie_var 2) (ia_cons (ie_var 3) ia_nil)))))))
 (iss_one (is_ret ie_bl))
 iss_nil)))
 (iss_one (is_ret ie_bl)))
 iss_nil)
 (iss_cons (is_if (it_cmp (os_eq rfl hr.units) (ie_ix rfl (ie_var 0) ie_int) (ie_str (s := s_con)))
 (iss_cons (is_set 5 sc_nd (ie_cmp (os_eq rfl hr.units) (ie_ix rfl (ie_var 1) ie_int) (ie_ix rfl (ie_var 0) ie_int)))
 (iss_one (is_set 6 sc_nd (ie_ix rfl (ie_var 0) ie_int))))
 (iss_cons (is_set 5 sc_nd (ie_cmp (os_eq rfl hr.units) (ie_ix rfl (ie_var 1) ie_int) (ie_call (C.c10) hr tk (ia_cons (ie_ix rfl (ie_var 0) ie_int) (ia_cons (ie_var 2) ia_nil)))))
 (iss_one (is_set 6 sc_nd (ie_ix rfl (ie_var 0) ie_int)))))
 (iss_cons (is_if (PW.pt (iw_or (it_not (it_truth rfl (ie_var 5))) (iw_or1 (it_cmp (os_ne rfl hr.units) (ie_isN (ie_var 6)) (ie_isN (ie_ix rfl (ie_var 1) ie_int))))))
 (iss_one (is_ret ie_bl))
 iss_nil)
 (iss_one (is_ret (ie_or rfl (ie_isN (ie_var 6)) (ie_one (ie_call (C.c11) hr tk (ia_cons (ie_var 6) (ia_cons (ie_ix rfl (ie_var 1) ie_int) (ia_cons (ie_var 2) (ia_cons (ie_var 3) ia_nil))))))))))))))))
theorem d__law_pairs (hK : G.K = K) (T : Tx K mg) (C : Cs P w K mg base G n c) (f : Addr) (cdv : Value) (A : Around) (outer : List Env) (s : Shared) (H : Hp) (E : XK)
    (hr : Room n (A.deeper (PyProof.Rows.envOfC "_law_pairs" (defScope st__law_pairs) s.heap.objs.size f cdv))) :
    PSs (cxOf (L2.CX P w) P w K mg base ["numbers", "paths", "k"] "_law_pairs" (defScope st__law_pairs) f cdv A outer s H E) (defBody st__law_pairs) (tS G (fun cls d _ H => E cls d H) (b__law_pairs c)) := by
  subst hK
  have sc_nd := sc__law_pairs.nd
  have tk : Takes (cxOf (L2.CX P w) P w G.K mg base ["numbers", "paths", "k"] "_law_pairs" (defScope st__law_pairs) f cdv A outer s H E) (fun cls d _ H => E cls d H) := takes_of rfl rfl rfl rfl
  have po := passes_of (X := cxOf (L2.CX P w) P w G.K mg base ["numbers", "paths", "k"] "_law_pairs" (defScope st__law_pairs) f cdv A outer s H E) rfl
  exact
 (iss_cons (is_set 1 sc_nd (ie_call0 (C.c5) hr))
 (iss_one (is_ret (ie_comp rfl sc_nd (CompOk.mk (own := [("k", 2)]) ⟨_, gv_name _ 2, fun _ _ _ _ _ => pg_name (i := 2) sc_nd rfl (by first | exact .inl rfl | exact .inr rfl)⟩ (iw_rng1 ie_int T.m_range) (blkOk_by (show blkC ["numbers", "paths", "k"] (defScope st__law_pairs) _ _ = true by decide +kernel)) (fun _ _ _ _ _ => its_nil) (fun _ _ _ _ _ => (ie_tup (ia_cons (ie_ix rfl (ie_var 1) (ie_var 2)) (ia_cons (ie_ix rfl (ie_var 0) (ie_var 2)) ia_nil)))) (by intro _; rfl))))))
theorem d__law_is_place (hK : G.K = K) (T : Tx K mg) (C : Cs P w K mg base G n c) (f : Addr) (cdv : Value) (A : Around) (outer : List Env) (s : Shared) (H : Hp) (E : XK)
    (hr : Room n (A.deeper (PyProof.Rows.envOfC "_law_is_place" (defScope st__law_is_place) s.heap.objs.size f cdv))) :
    PSs (cxOf (L2.CX P w) P w K mg base ["place", "step"] "_law_is_place" (defScope st__law_is_place) f cdv A outer s H E) (defBody st__law_is_place) (tS G (fun cls d _ H => E cls d H) (b__law_is_place c)) := by
  subst hK
  have sc_nd := sc__law_is_place.nd
  have tk : Takes (cxOf (L2.CX P w) P w G.K mg base ["place", "step"] "_law_is_place" (defScope st__law_is_place) f cdv A outer s H E) (fun cls d _ H => E cls d H) := takes_of rfl rfl rfl rfl
  have po := passes_of (X := cxOf (L2.CX P w) P w G.K mg base ["place", "step"] "_law_is_place" (defScope st__law_is_place) f cdv A outer s H E) rfl
  exact
 (iss_cons (is_if (it_not (it_truth rfl (ie_isA .tuple rfl (ie_var 0) T.m_isinstance T.m_tuple)))
 (iss_one (is_ret ie_bl))
 iss_nil)
 (iss_one (is_ret (ie_allC rfl rfl sc_nd (CompOk.mk (own := [("step", 1)]) ⟨_, gv_name _ 1, fun _ _ _ _ _ => pg_name (i := 1) sc_nd rfl (by first | exact .inl rfl | exact .inr rfl)⟩ (iw_seq rfl (ie_var 0)) (blkOk_by (show blkC ["place", "step"] (defScope st__law_is_place) _ _ = true by decide +kernel)) (fun _ _ _ _ _ => its_nil) (fun _ _ _ _ _ => (ie_or rfl (ie_cmp (os_eq rfl hr.units) (ie_var 1) (ie_str (s := s_argument))) (ie_one (ie_and rfl (ie_isA .int rfl (ie_var 1) T.m_isinstance T.m_int) (ie_one (ie_not rfl (ie_isA .bool rfl (ie_var 1) T.m_isinstance T.m_bool))))))) (by intro _; rfl)) T.m_all))))
theorem d__law_is_leaf (hK : G.K = K) (T : Tx K mg) (C : Cs P w K mg base G n c) (f : Addr) (cdv : Value) (A : Around) (outer : List Env) (s : Shared) (H : Hp) (E : XK)
    (hr : Room n (A.deeper (PyProof.Rows.envOfC "_law_is_leaf" (defScope st__law_is_leaf) s.heap.objs.size f cdv))) :
    PSs (cxOf (L2.CX P w) P w K mg base ["node", "rows", "pair"] "_law_is_leaf" (defScope st__law_is_leaf) f cdv A outer s H E) (defBody st__law_is_leaf) (tS G (fun cls d _ H => E cls d H) (b__law_is_leaf c)) := by
  subst hK
  have sc_nd := sc__law_is_leaf.nd
  have tk : Takes (cxOf (L2.CX P w) P w G.K mg base ["node", "rows", "pair"] "_law_is_leaf" (defScope st__law_is_leaf) f cdv A outer s H E) (fun cls d _ H => E cls d H) := takes_of rfl rfl rfl rfl
  have po := passes_of (X := cxOf (L2.CX P w) P w G.K mg base ["node", "rows", "pair"] "_law_is_leaf" (defScope st__law_is_leaf) f cdv A outer s H E) rfl
  exact
 (iss_cons (is_if (PW.pt (iw_or (it_cmp (os_ne rfl hr.units) (ie_callB (cs_len rfl) (by rfl) T.m_len (by decide +kernel) (ia_cons (ie_var 0) ia_nil)) ie_int) (iw_or (it_ninRng T.m_range (ie_ix rfl (ie_var 0) ie_int) (ia_cons (ie_callB (cs_len rfl) (by rfl) T.m_len (by decide +kernel) (ia_cons (ie_var 1) ia_nil)) ia_nil)) (iw_or1 (it_not (it_truth rfl (ie_isA .tuple rfl (ie_ix rfl (ie_var 0) ie_int) T.m_isinstance T.m_tuple)))))))
 (iss_one (is_ret ie_bl))
 iss_nil)
 (iss_cons (is_for po rfl (iw_seq rfl (ie_ix rfl (ie_var 0) ie_int)) (ig_name 2 sc_nd)
 (iss_one (is_if (PW.pt (iw_or (it_not (it_truth rfl (ie_isA .tuple rfl (ie_var 2) T.m_isinstance T.m_tuple))) (iw_or (it_cmp (os_ne rfl hr.units) (ie_callB (cs_len rfl) (by rfl) T.m_len (by decide +kernel) (ia_cons (ie_var 2) ia_nil)) ie_int) (iw_or (it_not (it_truth rfl (ie_isA .str rfl (ie_ix rfl (ie_var 2) ie_int) T.m_isinstance T.m_str))) (iw_or1 (it_not (it_truth rfl (ie_call (C.c13) hr tk (ia_cons (ie_ix rfl (ie_var 2) ie_int) ia_nil)))))))))
 (iss_one (is_ret ie_bl))
 iss_nil)))
 (iss_one (is_ret ie_bl))))
theorem d__law_is_test (hK : G.K = K) (T : Tx K mg) (C : Cs P w K mg base G n c) (f : Addr) (cdv : Value) (A : Around) (outer : List Env) (s : Shared) (H : Hp) (E : XK)
    (hr : Room n (A.deeper (PyProof.Rows.envOfC "_law_is_test" (defScope st__law_is_test) s.heap.objs.size f cdv))) :
    PSs (cxOf (L2.CX P w) P w K mg base ["node", "at", "many"] "_law_is_test" (defScope st__law_is_test) f cdv A outer s H E) (defBody st__law_is_test) (tS G (fun cls d _ H => E cls d H) (b__law_is_test c)) := by
  subst hK
  have sc_nd := sc__law_is_test.nd
  have tk : Takes (cxOf (L2.CX P w) P w G.K mg base ["node", "at", "many"] "_law_is_test" (defScope st__law_is_test) f cdv A outer s H E) (fun cls d _ H => E cls d H) := takes_of rfl rfl rfl rfl
  have po := passes_of (X := cxOf (L2.CX P w) P w G.K mg base ["node", "at", "many"] "_law_is_test" (defScope st__law_is_test) f cdv A outer s H E) rfl
  exact
 (iss_cons (is_if (PW.pt (iw_or (it_cmp (os_ne rfl hr.units) (ie_callB (cs_len rfl) (by rfl) T.m_len (by decide +kernel) (ia_cons (ie_var 0) ia_nil)) ie_int) (iw_or (it_ninRng T.m_range (ie_ix rfl (ie_var 0) ie_int) (ia_cons (ie_op (os_add rfl) (ie_var 1) ie_int) (ia_cons (ie_var 2) ia_nil))) (iw_or1 (it_ninRng T.m_range (ie_ix rfl (ie_var 0) ie_int) (ia_cons (ie_op (os_add rfl) (ie_var 1) ie_int) (ia_cons (ie_var 2) ia_nil)))))))
 (iss_one (is_ret ie_bl))
 iss_nil)
 (iss_cons (is_if (it_cmp (os_eq rfl hr.units) (ie_ix rfl (ie_var 0) ie_int) (ie_str (s := s_exception)))
 (iss_one (is_ret (ie_and rfl (ie_cmp (os_in rfl (hu65 hr)) (ie_ix rfl (ie_var 0) ie_int) (ie_call0 (C.c5) hr)) (ie_one (ie_call (C.c13) hr tk (ia_cons (ie_ix rfl (ie_var 0) ie_int) ia_nil))))))
 iss_nil)
 (iss_one (is_ret (ie_and rfl (ie_isA .int rfl (ie_ix rfl (ie_var 0) ie_int) T.m_isinstance T.m_int) (ie_and rfl (ie_not rfl (ie_isA .bool rfl (ie_ix rfl (ie_var 0) ie_int) T.m_isinstance T.m_bool)) (ie_one (ie_call (C.c13) hr tk (ia_cons (ie_ix rfl (ie_var 0) ie_int) ia_nil)))))))))
theorem d__law_first (hK : G.K = K) (T : Tx K mg) (C : Cs P w K mg base G n c) (f : Addr) (cdv : Value) (A : Around) (outer : List Env) (s : Shared) (H : Hp) (E : XK)
    (hr : Room n (A.deeper (PyProof.Rows.envOfC "_law_first" (defScope st__law_first) s.heap.objs.size f cdv))) :
    PSs (cxOf (L2.CX P w) P w K mg base ["rows", "value", "numbers", "k", "found"] "_law_first" (defScope st__law_first) f cdv A outer s H E) (defBody st__law_first) (tS G (fun cls d _ H => E cls d H) (b__law_first c)) := by
  subst hK
  have sc_nd := sc__law_first.nd
  have tk : Takes (cxOf (L2.CX P w) P w G.K mg base ["rows", "value", "numbers", "k", "found"] "_law_first" (defScope st__law_first) f cdv A outer s H E) (fun cls d _ H => E cls d H) := takes_of rfl rfl rfl rfl
  have po := passes_of (X := cxOf (L2.CX P w) P w G.K mg base ["rows", "value", "numbers", "k", "found"] "_law_first" (defScope st__law_first) f cdv A outer s H E) rfl
  exact
 (iss_cons (is_for po rfl (iw_rng1 (ie_callB (cs_len rfl) (by rfl) T.m_len (by decide +kernel) (ia_cons (ie_var 0) ia_nil)) T.m_range) (ig_name 3 sc_nd)
 (iss_cons (is_set 4 sc_nd (ie_lst ia_nil))
 (iss_one (is_if (it_truth rfl (ie_call (C.c11) hr tk (ia_cons (ie_ix rfl (ie_var 0) (ie_var 3)) (ia_cons (ie_var 1) (ia_cons (ie_var 2) (ia_cons (ie_var 4) ia_nil))))))
 (iss_one (is_ret (ie_tup (ia_cons (ie_var 3) (ia_cons (ie_var 4) ia_nil)))))
 iss_nil))))
 (iss_one (is_ret ie_non)))
theorem d__law_graph_form (hK : G.K = K) (T : Tx K mg) (C : Cs P w K mg base G n c) (f : Addr) (cdv : Value) (A : Around) (outer : List Env) (s : Shared) (H : Hp) (E : XK)
    (hr : Room n (A.deeper (PyProof.Rows.envOfC "_law_graph_form" (defScope st__law_graph_form) s.heap.objs.size f cdv))) :
    PSs (cxOf (L2.CX P w) P w K mg base ["graph", "rows", "tests", "reached", "at", "node", "row"] "_law_graph_form" (defScope st__law_graph_form) f cdv A outer s H E) (defBody st__law_graph_form) (tS G (fun cls d _ H => E cls d H) (b__law_graph_form c)) := by
  subst hK
  have sc_nd := sc__law_graph_form.nd
  have tk : Takes (cxOf (L2.CX P w) P w G.K mg base ["graph", "rows", "tests", "reached", "at", "node", "row"] "_law_graph_form" (defScope st__law_graph_form) f cdv A outer s H E) (fun cls d _ H => E cls d H) := takes_of rfl rfl rfl rfl
  have po := passes_of (X := cxOf (L2.CX P w) P w G.K mg base ["graph", "rows", "tests", "reached", "at", "node", "row"] "_law_graph_form" (defScope st__law_graph_form) f cdv A outer s H E) rfl
  exact
 (iss_cons (is_set 2 sc_nd (ie_sumC rfl rfl sc_nd (CompOk.mk (own := [("row", 6)]) ⟨_, gv_name _ 6, fun _ _ _ _ _ => pg_name (i := 6) sc_nd rfl (by first | exact .inl rfl | exact .inr rfl)⟩ (iw_seq rfl (ie_var 1)) (blkOk_by (show blkC ["graph", "rows", "tests", "reached", "at", "node", "row"] (defScope st__law_graph_form) _ _ = true by decide +kernel)) (fun _ _ _ _ _ => its_nil) (fun _ _ _ _ _ => (ie_call (C.c18) hr takes0 (ia_cons (ie_var 6) ia_nil))) (by intro _; rfl)) T.m_sum))
 (iss_cons (is_if (PW.pt (iw_or (it_not (it_truth rfl (ie_isA .tuple rfl (ie_var 0) T.m_isinstance T.m_tuple))) (iw_or1 (it_not (it_chain os_lt os_le ie_int (ie_callB (cs_len rfl) (by rfl) T.m_len (by decide +kernel) (ia_cons (ie_var 0) ia_nil)) (ie_op (os_add rfl) (ie_op (os_add rfl) (ie_var 2) (ie_callB (cs_len rfl) (by rfl) T.m_len (by decide +kernel) (ia_cons (ie_var 1) ia_nil))) ie_int))))))
 (iss_one (is_ret ie_bl))
 iss_nil)
 (iss_cons (is_set 3 sc_nd (ie_lst (ia_cons ie_int ia_nil)))
 (iss_cons (is_for po rfl (iw_rng1 (ie_callB (cs_len rfl) (by rfl) T.m_len (by decide +kernel) (ia_cons (ie_var 0) ia_nil)) T.m_range) (ig_name 4 sc_nd)
 (iss_cons (is_set 5 sc_nd (ie_ix rfl (ie_var 0) (ie_var 4)))
 (iss_cons (is_if (PW.pt (iw_or (it_cmp (os_nin rfl (hu65 hr)) (ie_var 4) (ie_var 3)) (iw_or (it_not (it_truth rfl (ie_isA .tuple rfl (ie_var 5) T.m_isinstance T.m_tuple))) (iw_or1 (it_cmp (os_eq rfl hr.units) (ie_callB (cs_len rfl) (by rfl) T.m_len (by decide +kernel) (ia_cons (ie_var 5) ia_nil)) ie_int)))))
 (iss_one (is_ret ie_bl))
 iss_nil)
 (iss_one (is_if (it_cmp (os_eq rfl hr.units) (ie_ix rfl (ie_var 5) ie_int) (ie_str (s := s_leaf)))
 (iss_one (is_if (it_not (it_truth rfl (ie_call (C.c14) hr tk (ia_cons (ie_var 5) (ia_cons (ie_var 1) ia_nil)))))
 (iss_one (is_ret ie_bl))
 iss_nil))
 (iss_one (is_if (it_cmp (os_in rfl (hu65 hr)) (ie_ix rfl (ie_var 5) ie_int) (ie_tup (ia_cons (ie_str (s := s_constructor)) (ia_cons (ie_str (s := s_integer)) (ia_cons (ie_str (s := s_exception)) ia_nil)))))
 (iss_cons (is_if (it_not (it_truth rfl (ie_call (C.c15) hr tk (ia_cons (ie_var 5) (ia_cons (ie_var 4) (ia_cons (ie_callB (cs_len rfl) (by rfl) T.m_len (by decide +kernel) (ia_cons (ie_var 0) ia_nil)) ia_nil))))))
 (iss_one (is_ret ie_bl))
 iss_nil)
 (iss_cons (is_expr (ie_bm rfl ms_append PySem.F.slot_list_append PySem.F.type_list_append (ie_var 3) (ia_cons (ie_ix rfl (ie_var 5) ie_int) ia_nil)))
 (iss_one (is_expr (ie_bm rfl ms_append PySem.F.slot_list_append PySem.F.type_list_append (ie_var 3) (ia_cons (ie_ix rfl (ie_var 5) ie_int) ia_nil))))))
 (iss_one (is_if (it_cmp (os_ne rfl hr.units) (ie_var 5) (ie_tup (ia_cons (ie_str (s := s_fail)) ia_nil)))
 (iss_one (is_ret ie_bl))
 iss_nil)))))))))
 (iss_one (is_ret ie_bl))))))
theorem d__law_tests (hK : G.K = K) (T : Tx K mg) (C : Cs P w K mg base G n c) (f : Addr) (cdv : Value) (A : Around) (outer : List Env) (s : Shared) (H : Hp) (E : XK)
    (hr : Room n (A.deeper (PyProof.Rows.envOfC "_law_tests" (defScope st__law_tests) s.heap.objs.size f cdv))) :
    PSs (cxOf (L2.CX P w) P w K mg base ["pattern", "todo", "count", "part"] "_law_tests" (defScope st__law_tests) f cdv A outer s H E) (defBody st__law_tests) (tS G (fun cls d _ H => E cls d H) (b__law_tests c)) := by
  subst hK
  have sc_nd := sc__law_tests.nd
  have tk : Takes (cxOf (L2.CX P w) P w G.K mg base ["pattern", "todo", "count", "part"] "_law_tests" (defScope st__law_tests) f cdv A outer s H E) (fun cls d _ H => E cls d H) := takes_of rfl rfl rfl rfl
  have po := passes_of (X := cxOf (L2.CX P w) P w G.K mg base ["pattern", "todo", "count", "part"] "_law_tests" (defScope st__law_tests) f cdv A outer s H E) rfl
  exact
 (iss_cons (is_set 1 sc_nd (ie_lst (ia_cons (ie_var 0) ia_nil)))
 (iss_cons (is_set 2 sc_nd ie_int)
 (iss_cons (is_while po (it_cmp os_gt (ie_callB (cs_len rfl) (by rfl) T.m_len (by decide +kernel) (ia_cons (ie_var 1) ia_nil)) ie_int)
 (iss_cons (is_set 3 sc_nd (ie_bm0 rfl ms_pop PySem.F.slot_list_pop PySem.F.type_list_pop (ie_var 1)))
 (iss_cons (is_if (it_cmp (os_eq rfl hr.units) (ie_ix rfl (ie_var 3) ie_int) (ie_str (s := s_as)))
 (iss_one (is_expr (ie_bm rfl ms_append PySem.F.slot_list_append PySem.F.type_list_append (ie_var 1) (ia_cons (ie_ix rfl (ie_var 3) ie_int) ia_nil))))
 iss_nil)
 (iss_cons (is_if (it_cmp (os_eq rfl hr.units) (ie_ix rfl (ie_var 3) ie_int) (ie_str (s := s_tuple)))
 (iss_one (is_expr (ie_bm rfl ms_extend PySem.F.slot_list_extend PySem.F.type_list_extend (ie_var 1) (ia_cons (ie_callTy (cs_list rfl) (by rfl) T.m_list (by decide +kernel) (ia_cons (ie_ix rfl (ie_var 3) ie_int) ia_nil)) ia_nil))))
 iss_nil)
 (iss_cons (is_if (it_cmp (os_eq rfl hr.units) (ie_ix rfl (ie_var 3) ie_int) (ie_str (s := s_con)))
 (iss_cons (is_aug 2 ip_add' sc_nd ie_int)
 (iss_one (is_if (it_notN (ie_ix rfl (ie_var 3) ie_int))
 (iss_one (is_expr (ie_bm rfl ms_append PySem.F.slot_list_append PySem.F.type_list_append (ie_var 1) (ia_cons (ie_ix rfl (ie_var 3) ie_int) ia_nil))))
 iss_nil)))
 iss_nil)
 (iss_cons (is_if (it_cmp (os_eq rfl hr.units) (ie_ix rfl (ie_var 3) ie_int) (ie_str (s := s_packet)))
 (iss_cons (is_aug 2 ip_add' sc_nd ie_int)
 (iss_one (is_if (it_notN (ie_ix rfl (ie_var 3) ie_int))
 (iss_one (is_expr (ie_bm rfl ms_append PySem.F.slot_list_append PySem.F.type_list_append (ie_var 1) (ia_cons (ie_ix rfl (ie_var 3) ie_int) ia_nil))))
 iss_nil)))
 iss_nil)
 (iss_one (is_if (it_cmp (os_eq rfl hr.units) (ie_ix rfl (ie_var 3) ie_int) (ie_str (s := s_int)))
 (iss_one (is_aug 2 ip_add' sc_nd ie_int))
 iss_nil))))))))
 (iss_one (is_ret (ie_var 2))))))
theorem d__law_part_at (hK : G.K = K) (T : Tx K mg) (C : Cs P w K mg base G n c) (f : Addr) (cdv : Value) (A : Around) (outer : List Env) (s : Shared) (H : Hp) (E : XK)
    (hr : Room n (A.deeper (PyProof.Rows.envOfC "_law_part_at" (defScope st__law_part_at) s.heap.objs.size f cdv))) :
    PSs (cxOf (L2.CX P w) P w K mg base ["value", "place", "step"] "_law_part_at" (defScope st__law_part_at) f cdv A outer s H E) (defBody st__law_part_at) (tS G (fun cls d _ H => E cls d H) (b__law_part_at c)) := by
  subst hK
  have sc_nd := sc__law_part_at.nd
  have tk : Takes (cxOf (L2.CX P w) P w G.K mg base ["value", "place", "step"] "_law_part_at" (defScope st__law_part_at) f cdv A outer s H E) (fun cls d _ H => E cls d H) := takes_of rfl rfl rfl rfl
  have po := passes_of (X := cxOf (L2.CX P w) P w G.K mg base ["value", "place", "step"] "_law_part_at" (defScope st__law_part_at) f cdv A outer s H E) rfl
  exact
 (iss_cons (is_for po rfl (iw_seq rfl (ie_var 1)) (ig_name 2 sc_nd)
 (iss_one (is_if (it_cmp (os_eq rfl hr.units) (ie_var 2) (ie_str (s := s_argument)))
 (iss_cons (is_if (PW.pt (iw_or (it_cmp (os_nin rfl (hu65 hr)) (ie_ix rfl (ie_var 0) ie_int) (ie_tup (ia_cons (ie_str (s := s_con)) (ia_cons (ie_str (s := s_packet)) ia_nil)))) (iw_or1 (it_isN (ie_ix rfl (ie_var 0) ie_int)))))
 (iss_one (is_ret ie_non))
 iss_nil)
 (iss_one (is_set 0 sc_nd (ie_ix rfl (ie_var 0) ie_int))))
 (iss_cons (is_if (PW.pt (iw_or (it_cmp (os_ne rfl hr.units) (ie_ix rfl (ie_var 0) ie_int) (ie_str (s := s_tuple))) (iw_or1 (it_ninRng T.m_range (ie_var 2) (ia_cons (ie_callB (cs_len rfl) (by rfl) T.m_len (by decide +kernel) (ia_cons (ie_ix rfl (ie_var 0) ie_int) ia_nil)) ia_nil)))))
 (iss_one (is_ret ie_non))
 iss_nil)
 (iss_one (is_set 0 sc_nd (ie_ix rfl (ie_ix rfl (ie_var 0) ie_int) (ie_var 2))))))))
 (iss_one (is_ret (ie_var 0))))
theorem d__law_walks (hK : G.K = K) (T : Tx K mg) (C : Cs P w K mg base G n c) (f : Addr) (cdv : Value) (A : Around) (outer : List Env) (s : Shared) (H : Hp) (E : XK)
    (hr : Room n (A.deeper (PyProof.Rows.envOfC "_law_walks" (defScope st__law_walks) s.heap.objs.size f cdv))) :
    PSs (cxOf (L2.CX P w) P w K mg base ["graph", "rows", "value", "due", "at", "turn", "node", "part", "key", "pair"] "_law_walks" (defScope st__law_walks) f cdv A outer s H E) (defBody st__law_walks) (tS G (fun cls d _ H => E cls d H) (b__law_walks c)) := by
  subst hK
  have sc_nd := sc__law_walks.nd
  have tk : Takes (cxOf (L2.CX P w) P w G.K mg base ["graph", "rows", "value", "due", "at", "turn", "node", "part", "key", "pair"] "_law_walks" (defScope st__law_walks) f cdv A outer s H E) (fun cls d _ H => E cls d H) := takes_of rfl rfl rfl rfl
  have po := passes_of (X := cxOf (L2.CX P w) P w G.K mg base ["graph", "rows", "value", "due", "at", "turn", "node", "part", "key", "pair"] "_law_walks" (defScope st__law_walks) f cdv A outer s H E) rfl
  exact
 (iss_cons (is_set 3 sc_nd (ie_call (C.c16) hr tk (ia_cons (ie_var 1) (ia_cons (ie_var 2) (ia_cons (ie_lst (ia_cons ie_int (ia_cons ie_int (ia_cons ie_int ia_nil)))) ia_nil)))))
 (iss_cons (is_set 4 sc_nd ie_int)
 (iss_cons (is_for po rfl (iw_rng1 (ie_callB (cs_len rfl) (by rfl) T.m_len (by decide +kernel) (ia_cons (ie_var 0) ia_nil)) T.m_range) (ig_name 5 sc_nd)
 (iss_cons (is_set 6 sc_nd (ie_ix rfl (ie_var 0) (ie_var 4)))
 (iss_cons (is_if (it_cmp (os_eq rfl hr.units) (ie_var 6) (ie_tup (ia_cons (ie_str (s := s_fail)) ia_nil)))
 (iss_one (is_ret (ie_isN (ie_var 3))))
 iss_nil)
 (iss_cons (is_if (it_cmp (os_eq rfl hr.units) (ie_ix rfl (ie_var 6) ie_int) (ie_str (s := s_leaf)))
 (iss_one (is_ret (ie_cmp (os_eq rfl hr.units) (ie_var 3) (ie_tup (ia_cons (ie_ix rfl (ie_var 6) ie_int) (ia_cons (ie_comp rfl sc_nd (CompOk.mk (own := [("pair", 9)]) ⟨_, gv_name _ 9, fun _ _ _ _ _ => pg_name (i := 9) sc_nd rfl (by first | exact .inl rfl | exact .inr rfl)⟩ (iw_seq rfl (ie_ix rfl (ie_var 6) ie_int)) (blkOk_by (show blkC ["graph", "rows", "value", "due", "at", "turn", "node", "part", "key", "pair"] (defScope st__law_walks) _ _ = true by decide +kernel)) (fun _ _ _ _ _ => its_nil) (fun _ _ _ _ _ => (ie_tup (ia_cons (ie_ix rfl (ie_var 9) ie_int) (ia_cons (ie_call (C.c19) hr takes0 (ia_cons (ie_var 2) (ia_cons (ie_ix rfl (ie_var 9) ie_int) ia_nil))) ia_nil)))) (by intro _; rfl))) ia_nil))))))
 iss_nil)
 (iss_cons (is_set 7 sc_nd (ie_call (C.c19) hr tk (ia_cons (ie_var 2) (ia_cons (ie_ix rfl (ie_var 6) ie_int) ia_nil))))
 (iss_cons (is_if (PW.pt (iw_or (it_isN (ie_var 7)) (iw_or1 (it_cmp (os_ne rfl hr.units) (ie_ix rfl (ie_var 7) ie_int) (ie_ix rfl (ie_lst (ia_cons (ie_str (s := s_con)) (ia_cons (ie_str (s := s_int)) (ia_cons (ie_str (s := s_packet)) ia_nil)))) (ie_bm rfl (ms_index rfl (hu65 hr)) PySem.F.slot_list_index PySem.F.type_list_index (ie_lst (ia_cons (ie_str (s := s_constructor)) (ia_cons (ie_str (s := s_integer)) (ia_cons (ie_str (s := s_exception)) ia_nil)))) (ia_cons (ie_ix rfl (ie_var 6) ie_int) ia_nil)))))))
 (iss_one (is_ret ie_bl))
 iss_nil)
 (iss_cons (is_set 8 sc_nd (ie_if (it_cmp (os_ne rfl hr.units) (ie_ix rfl (ie_var 6) ie_int) (ie_str (s := s_exception))) (ie_ix rfl (ie_var 6) ie_int) (ie_call (C.c10) hr tk (ia_cons (ie_ix rfl (ie_var 6) ie_int) (ia_cons (ie_lst (ia_cons ie_int (ia_cons ie_int (ia_cons ie_int ia_nil)))) ia_nil)))))
 (iss_one (is_set 4 sc_nd (ie_if (it_cmp (os_eq rfl hr.units) (ie_ix rfl (ie_var 7) ie_int) (ie_var 8)) (ie_ix rfl (ie_var 6) ie_int) (ie_ix rfl (ie_var 6) ie_int)))))))))))
 (iss_one (is_ret ie_bl)))))
theorem d__law_nodes (hK : G.K = K) (T : Tx K mg) (C : Cs P w K mg base G n c) (f : Addr) (cdv : Value) (A : Around) (outer : List Env) (s : Shared) (H : Hp) (E : XK)
    (hr : Room n (A.deeper (PyProof.Rows.envOfC "_law_nodes" (defScope st__law_nodes) s.heap.objs.size f cdv))) :
    PSs (cxOf (L2.CX P w) P w K mg base ["tree", "part"] "_law_nodes" (defScope st__law_nodes) f cdv A outer s H E) (defBody st__law_nodes) (tS G (fun cls d _ H => E cls d H) (b__law_nodes c)) := by
  subst hK
  have sc_nd := sc__law_nodes.nd
  have tk : Takes (cxOf (L2.CX P w) P w G.K mg base ["tree", "part"] "_law_nodes" (defScope st__law_nodes) f cdv A outer s H E) (fun cls d _ H => E cls d H) := takes_of rfl rfl rfl rfl
  have po := passes_of (X := cxOf (L2.CX P w) P w G.K mg base ["tree", "part"] "_law_nodes" (defScope st__law_nodes) f cdv A outer s H E) rfl
  exact
 (iss_cons (is_if (PW.pt (iw_or (it_not (it_truth rfl (ie_isA .tuple rfl (ie_var 0) T.m_isinstance T.m_tuple))) (iw_or1 (it_cmp (os_eq rfl hr.units) (ie_var 0) (ie_tup ia_nil)))))
 (iss_one (is_ret ie_int))
 iss_nil)
 (iss_one (is_ret (ie_op (os_add rfl) (ie_callTy (cs_int) (by rfl) T.m_int (by decide +kernel) (ia_cons (ie_isA .str rfl (ie_ix rfl (ie_var 0) ie_int) T.m_isinstance T.m_str) ia_nil)) (ie_sumC rfl rfl sc_nd (CompOk.mk (own := [("part", 1)]) ⟨_, gv_name _ 1, fun _ _ _ _ _ => pg_name (i := 1) sc_nd rfl (by first | exact .inl rfl | exact .inr rfl)⟩ (iw_seq rfl (ie_var 0)) (blkOk_by (show blkC ["tree", "part"] (defScope st__law_nodes) _ _ = true by decide +kernel)) (fun _ _ _ _ _ => its_nil) (fun _ _ _ _ _ => (ie_call (C.c21) hr takes0 (ia_cons (ie_var 1) ia_nil))) (by intro _; rfl)) T.m_sum)))))
theorem d_law (hK : G.K = K) (T : Tx K mg) (C : Cs P w K mg base G n c) (f : Addr) (cdv : Value) (A : Around) (outer : List Env) (s : Shared) (H : Hp) (E : XK)
    (hr : Room n (A.deeper (PyProof.Rows.envOfC "law" (defScope st_law) s.heap.objs.size f cdv))) :
    PSs (cxOf (L2.CX P w) P w K mg base ["script", "tape", "wide", "kind", "many", "rows", "handed", "graph", "k", "turn", "row"] "law" (defScope st_law) f cdv A outer s H E) (defBody st_law) (tS G (fun cls d _ H => E cls d H) (b_law c)) := by
  subst hK
  have sc_nd := sc_law.nd
  have tk : Takes (cxOf (L2.CX P w) P w G.K mg base ["script", "tape", "wide", "kind", "many", "rows", "handed", "graph", "k", "turn", "row"] "law" (defScope st_law) f cdv A outer s H E) (fun cls d _ H => E cls d H) := takes_of rfl rfl rfl rfl
  have po := passes_of (X := cxOf (L2.CX P w) P w G.K mg base ["script", "tape", "wide", "kind", "many", "rows", "handed", "graph", "k", "turn", "row"] "law" (defScope st_law) f cdv A outer s H E) rfl
  exact
 (iss_cons (is_set 1 sc_nd (ie_call (C.c3) hr tk (ia_cons (ie_var 0) (ia_cons ie_int ia_nil))))
 (iss_cons (is_set 2 sc_nd (ie_cmp (os_eq rfl hr.units) (ie_call (C.c4) hr tk (ia_cons (ie_var 1) (ia_cons ie_int ia_nil))) ie_int))
 (iss_cons (is_set 3 sc_nd (ie_call (C.c7) hr tk (ia_cons (ie_var 1) (ia_cons (ie_if (it_truth rfl (ie_var 2)) ie_int ie_int) ia_nil))))
 (iss_cons (is_set 4 sc_nd (ie_if (it_truth rfl (ie_var 2)) ie_int (ie_op (os_add rfl) ie_int (ie_call (C.c4) hr tk (ia_cons (ie_var 1) (ia_cons ie_int ia_nil))))))
 (iss_cons (is_set 5 sc_nd (ie_comp rfl sc_nd (CompOk.mk (own := [("k", 8)]) ⟨_, gv_name _ 8, fun _ _ _ _ _ => pg_name (i := 8) sc_nd rfl (by first | exact .inl rfl | exact .inr rfl)⟩ (iw_rng1 (ie_var 4) T.m_range) (blkOk_by (show blkC ["script", "tape", "wide", "kind", "many", "rows", "handed", "graph", "k", "turn", "row"] (defScope st_law) _ _ = true by decide +kernel)) (fun _ _ _ _ _ => its_nil) (fun _ _ _ _ _ => (ie_call (C.c8) hr takes0 (ia_cons (ie_var 1) (ia_cons (ie_var 3) (ia_cons (ie_lst ia_nil) ia_nil))))) (by intro _; rfl))))
 (iss_cons (is_while po (PW.pt (iw_and (it_cmp os_gt (ie_callB (cs_len rfl) (by rfl) T.m_len (by decide +kernel) (ia_cons (ie_var 5) ia_nil)) ie_int) (iw_and1 (it_cmp os_gt (ie_sumC rfl rfl sc_nd (CompOk.mk (own := [("row", 10)]) ⟨_, gv_name _ 10, fun _ _ _ _ _ => pg_name (i := 10) sc_nd rfl (by first | exact .inl rfl | exact .inr rfl)⟩ (iw_seq rfl (ie_var 5)) (blkOk_by (show blkC ["script", "tape", "wide", "kind", "many", "rows", "handed", "graph", "k", "turn", "row"] (defScope st_law) _ _ = true by decide +kernel)) (fun _ _ _ _ _ => its_nil) (fun _ _ _ _ _ => (ie_call (C.c21) hr takes0 (ia_cons (ie_var 10) ia_nil))) (by intro _; rfl)) T.m_sum) ie_int))))
 (iss_one (is_expr (ie_bm0 rfl ms_pop PySem.F.slot_list_pop PySem.F.type_list_pop (ie_var 5)))))
 (iss_cons (is_set 6 sc_nd (ie_callTy (cs_list rfl) (by rfl) T.m_list (by decide +kernel) (ia_cons (ie_var 5) ia_nil)))
 (iss_cons (is_set 7 sc_nd (ie_call (C.c1) hr tk (ia_cons (ie_var 6) ia_nil)))
 (iss_cons (is_if (PW.pt (iw_or (it_cmp (os_ne rfl hr.units) (ie_var 6) (ie_var 5)) (iw_or1 (it_not (it_truth rfl (ie_call (C.c17) hr tk (ia_cons (ie_var 7) (ia_cons (ie_var 5) ia_nil))))))))
 (iss_one (is_ret ie_bl))
 iss_nil)
 (iss_one (is_ret (ie_allC rfl rfl sc_nd (CompOk.mk (own := [("turn", 9)]) ⟨_, gv_name _ 9, fun _ _ _ _ _ => pg_name (i := 9) sc_nd rfl (by first | exact .inl rfl | exact .inr rfl)⟩ (iw_rng1 ie_int T.m_range) (blkOk_by (show blkC ["script", "tape", "wide", "kind", "many", "rows", "handed", "graph", "k", "turn", "row"] (defScope st_law) _ _ = true by decide +kernel)) (fun _ _ _ _ _ => its_nil) (fun _ _ _ _ _ => (ie_call (C.c20) hr takes0 (ia_cons (ie_var 7) (ia_cons (ie_var 5) (ia_cons (ie_call (C.c9) hr takes0 (ia_cons (ie_var 1) (ia_cons (ie_var 3) (ia_cons (ie_lst (ia_cons ie_int (ia_cons ie_int (ia_cons ie_int ia_nil)))) ia_nil)))) ia_nil))))) (by intro _; rfl)) T.m_all))))))))))))
end
end K41
/-! ## End_K41 -/
set_option Elab.async false
set_option linter.all false
set_option maxRecDepth 100000
set_option maxHeartbeats 0
set_option autoImplicit false
/-! the end of shapewright_k41_form_of_decision_graphs; printed by gen.py -/
namespace K41
open PySem L2 PI
section
variable {K : PySem.W.Frag} {mg : Str → Option Value}
/-- the defs, the built-ins, the constants behind the top -/
structure Fs (K : PySem.W.Frag) (mg : Str → Option Value) : Prop where
  tx : Tx K mg
  f0 : FunOk K mg "walk_pattern" st_walk_pattern ["pattern", "place", "tests", "bindings"]
  f1 : FunOk K mg "decision_graph" st_decision_graph ["rows"]
  f2 : FunOk K mg "_law_mix" st__law_mix ["number"]
  f3 : FunOk K mg "_law_tape" st__law_tape ["script", "budget"]
  f4 : FunOk K mg "_law_take" st__law_take ["tape", "many"]
  f5 : FunOk K mg "_law_paths" st__law_paths []
  f6 : FunOk K mg "_law_integer" st__law_integer ["tape", "many"]
  f7 : FunOk K mg "_law_kind" st__law_kind ["tape", "deep"]
  f8 : FunOk K mg "_law_pattern" st__law_pattern ["tape", "kind", "names"]
  f9 : FunOk K mg "_law_value" st__law_value ["tape", "kind", "numbers"]
  f10 : FunOk K mg "_law_number_of" st__law_number_of ["path", "numbers"]
  f11 : FunOk K mg "_law_fit" st__law_fit ["pattern", "value", "numbers", "found"]
  f12 : FunOk K mg "_law_pairs" st__law_pairs ["numbers"]
  f13 : FunOk K mg "_law_is_place" st__law_is_place ["place"]
  f14 : FunOk K mg "_law_is_leaf" st__law_is_leaf ["node", "rows"]
  f15 : FunOk K mg "_law_is_test" st__law_is_test ["node", "at", "many"]
  f16 : FunOk K mg "_law_first" st__law_first ["rows", "value", "numbers"]
  f17 : FunOk K mg "_law_graph_form" st__law_graph_form ["graph", "rows"]
  f18 : FunOk K mg "_law_tests" st__law_tests ["pattern"]
  f19 : FunOk K mg "_law_part_at" st__law_part_at ["value", "place"]
  f20 : FunOk K mg "_law_walks" st__law_walks ["graph", "rows", "value"]
  f21 : FunOk K mg "_law_nodes" st__law_nodes ["tree"]
  f22 : FunOk K mg "law" st_law ["script"]
variable {P : Program} {w : World} {base : Heap} {G : Gx}
theorem all_ok (hK : G.K = K) (F : Fs K mg) : ∀ n, Cs P w K mg base G n (sem T n)
  | 0 => ⟨cal_zero F.f0 (fun _ _ => rfl) rfl,
    cal_zero F.f1 (fun _ _ => rfl) rfl,
    cal_zero F.f2 (fun _ _ => rfl) rfl,
    cal_zero F.f3 (fun _ _ => rfl) rfl,
    cal_zero F.f4 (fun _ _ => rfl) rfl,
    cal_zero F.f5 (fun _ _ => rfl) rfl,
    cal_zero F.f6 (fun _ _ => rfl) rfl,
    cal_zero F.f7 (fun _ _ => rfl) rfl,
    cal_zero F.f8 (fun _ _ => rfl) rfl,
    cal_zero F.f9 (fun _ _ => rfl) rfl,
    cal_zero F.f10 (fun _ _ => rfl) rfl,
    cal_zero F.f11 (fun _ _ => rfl) rfl,
    cal_zero F.f12 (fun _ _ => rfl) rfl,
    cal_zero F.f13 (fun _ _ => rfl) rfl,
    cal_zero F.f14 (fun _ _ => rfl) rfl,
    cal_zero F.f15 (fun _ _ => rfl) rfl,
    cal_zero F.f16 (fun _ _ => rfl) rfl,
    cal_zero F.f17 (fun _ _ => rfl) rfl,
    cal_zero F.f18 (fun _ _ => rfl) rfl,
    cal_zero F.f19 (fun _ _ => rfl) rfl,
    cal_zero F.f20 (fun _ _ => rfl) rfl,
    cal_zero F.f21 (fun _ _ => rfl) rfl,
    cal_zero F.f22 (fun _ _ => rfl) rfl⟩
  | n + 1 =>
    have C := all_ok hK F n
    ⟨cal_succ F.f0 sc_walk_pattern fun f cdv A outer s H E hr => d_walk_pattern hK F.tx C f cdv A outer s H E hr,
    cal_succ F.f1 sc_decision_graph fun f cdv A outer s H E hr => d_decision_graph hK F.tx C f cdv A outer s H E hr,
    cal_succ F.f2 sc__law_mix fun f cdv A outer s H E hr => d__law_mix hK F.tx C f cdv A outer s H E hr,
    cal_succ F.f3 sc__law_tape fun f cdv A outer s H E hr => d__law_tape hK F.tx C f cdv A outer s H E hr,
    cal_succ F.f4 sc__law_take fun f cdv A outer s H E hr => d__law_take hK F.tx C f cdv A outer s H E hr,
    cal_succ F.f5 sc__law_paths fun f cdv A outer s H E hr => d__law_paths hK F.tx C f cdv A outer s H E hr,
    cal_succ F.f6 sc__law_integer fun f cdv A outer s H E hr => d__law_integer hK F.tx C f cdv A outer s H E hr,
    cal_succ F.f7 sc__law_kind fun f cdv A outer s H E hr => d__law_kind hK F.tx C f cdv A outer s H E hr,
    cal_succ F.f8 sc__law_pattern fun f cdv A outer s H E hr => d__law_pattern hK F.tx C f cdv A outer s H E hr,
    cal_succ F.f9 sc__law_value fun f cdv A outer s H E hr => d__law_value hK F.tx C f cdv A outer s H E hr,
    cal_succ F.f10 sc__law_number_of fun f cdv A outer s H E hr => d__law_number_of hK F.tx C f cdv A outer s H E hr,
    cal_succ F.f11 sc__law_fit fun f cdv A outer s H E hr => d__law_fit hK F.tx C f cdv A outer s H E hr,
    cal_succ F.f12 sc__law_pairs fun f cdv A outer s H E hr => d__law_pairs hK F.tx C f cdv A outer s H E hr,
    cal_succ F.f13 sc__law_is_place fun f cdv A outer s H E hr => d__law_is_place hK F.tx C f cdv A outer s H E hr,
    cal_succ F.f14 sc__law_is_leaf fun f cdv A outer s H E hr => d__law_is_leaf hK F.tx C f cdv A outer s H E hr,
    cal_succ F.f15 sc__law_is_test fun f cdv A outer s H E hr => d__law_is_test hK F.tx C f cdv A outer s H E hr,
    cal_succ F.f16 sc__law_first fun f cdv A outer s H E hr => d__law_first hK F.tx C f cdv A outer s H E hr,
    cal_succ F.f17 sc__law_graph_form fun f cdv A outer s H E hr => d__law_graph_form hK F.tx C f cdv A outer s H E hr,
    cal_succ F.f18 sc__law_tests fun f cdv A outer s H E hr => d__law_tests hK F.tx C f cdv A outer s H E hr,
    cal_succ F.f19 sc__law_part_at fun f cdv A outer s H E hr => d__law_part_at hK F.tx C f cdv A outer s H E hr,
    cal_succ F.f20 sc__law_walks fun f cdv A outer s H E hr => d__law_walks hK F.tx C f cdv A outer s H E hr,
    cal_succ F.f21 sc__law_nodes fun f cdv A outer s H E hr => d__law_nodes hK F.tx C f cdv A outer s H E hr,
    cal_succ F.f22 sc_law fun f cdv A outer s H E hr => d_law hK F.tx C f cdv A outer s H E hr⟩
end
def fn : List He.DefD := [mkD "walk_pattern" st_walk_pattern, mkD "decision_graph" st_decision_graph, mkD "_law_mix" st__law_mix, mkD "_law_tape" st__law_tape, mkD "_law_take" st__law_take, mkD "_law_paths" st__law_paths, mkD "_law_integer" st__law_integer, mkD "_law_kind" st__law_kind, mkD "_law_pattern" st__law_pattern, mkD "_law_value" st__law_value, mkD "_law_number_of" st__law_number_of, mkD "_law_fit" st__law_fit, mkD "_law_pairs" st__law_pairs, mkD "_law_is_place" st__law_is_place, mkD "_law_is_leaf" st__law_is_leaf, mkD "_law_is_test" st__law_is_test, mkD "_law_first" st__law_first, mkD "_law_graph_form" st__law_graph_form, mkD "_law_tests" st__law_tests, mkD "_law_part_at" st__law_part_at, mkD "_law_walks" st__law_walks, mkD "_law_nodes" st__law_nodes, mkD "law" st_law]
def fa : List He.Fa := [.glo "walk_pattern", .glo "decision_graph", .glo "_law_mix", .glo "_law_tape", .glo "_law_take", .glo "_law_paths", .glo "_law_integer", .glo "_law_kind", .glo "_law_pattern", .glo "_law_value", .glo "_law_number_of", .glo "_law_fit", .glo "_law_pairs", .glo "_law_is_place", .glo "_law_is_leaf", .glo "_law_is_test", .glo "_law_first", .glo "_law_graph_form", .glo "_law_tests", .glo "_law_part_at", .glo "_law_walks", .glo "_law_nodes", .glo "law", .free "all", .free "bool", .free "enumerate", .free "int", .free "isinstance", .free "len", .free "list", .free "range", .free "str", .free "sum", .free "tuple"]
abbrev R : PySem.W.OpenRow := PySem.W.OpenLaw.row PySem.Challenge.rw_shapewright_k41_form_of_decision_graphs
def ex (K : PySem.W.Frag) : Bool := true
abbrev hk : PySem.W.Hook := hookE 8 fa fn ex
def ob (s : PySem.W.SharedT) : He.AlD × Bool := obsE 8 fa fn ex (HandSHeadRun.getT s)
theorem ob_eq (s : PySem.W.SharedT) : ob s = hk.obs s.abs := obsE_eq (HandSHeadRun.getT_eq s)
def loose0 : List PySem.Str := ["walk_pattern", "decision_graph", "_law_mix", "_law_tape", "_law_take", "_law_paths", "_law_integer", "_law_kind", "_law_pattern", "_law_value", "_law_number_of", "_law_fit", "_law_pairs", "_law_is_place", "_law_is_leaf", "_law_is_test", "_law_first", "_law_graph_form", "_law_tests", "_law_part_at", "_law_walks", "_law_nodes"]
abbrev loose : List PySem.Str := loose0
theorem run (w : World) : HandSHeadRun.RunEq R (PySem.W.view R.prog [24]) hk ob 6000 loose w := by
  intro os
  kernel_rfl
theorem facts {P : Program} {w : World} {K : PySem.W.Frag} {h : Heap} {mg : Str → Option Value} {f : Addr} (X : K.In h) (G : h.Ns mainGlobals mg) (hfa : mg ("law" : Str) = some (.ref f)) (c : He.SaysD fa fn K) (cx : ex K = true) :
    ∃ fd : FuncData, (∀ (s : Shared) (v : Value), BindsTo s fd ⟨[v], []⟩ [("script", v)]) ∧ ∀ base : Heap, K.In base → base.Ns mainGlobals mg → FnOk P w K mg base (L2.CX P w) 230 f fd ["script"] (spI ⟨K, fun _ => .non, fun _ => .none⟩ 1 (sem T 230 22)) := by
  have Z : Tx K mg := ⟨He.free_ok X G (c.fact 23 (f := .free "all") rfl),
    He.free_ok X G (c.fact 24 (f := .free "bool") rfl),
    He.free_ok X G (c.fact 25 (f := .free "enumerate") rfl),
    He.free_ok X G (c.fact 26 (f := .free "int") rfl),
    He.free_ok X G (c.fact 27 (f := .free "isinstance") rfl),
    He.free_ok X G (c.fact 28 (f := .free "len") rfl),
    He.free_ok X G (c.fact 29 (f := .free "list") rfl),
    He.free_ok X G (c.fact 30 (f := .free "range") rfl),
    He.free_ok X G (c.fact 31 (f := .free "str") rfl),
    He.free_ok X G (c.fact 32 (f := .free "sum") rfl),
    He.free_ok X G (c.fact 33 (f := .free "tuple") rfl)⟩
  have F : Fs K mg := ⟨Z, funOk_of X G c 0 0 (fun _ _ _ _ _ _ us hl => match us, hl with | [_, _, _, _], _ => rfl),
    funOk_of X G c 1 1 (fun _ _ _ _ _ _ us hl => match us, hl with | [_], _ => rfl),
    funOk_of X G c 2 2 (fun _ _ _ _ _ _ us hl => match us, hl with | [_], _ => rfl),
    funOk_of X G c 3 3 (fun _ _ _ _ _ _ us hl => match us, hl with | [_, _], _ => rfl),
    funOk_of X G c 4 4 (fun _ _ _ _ _ _ us hl => match us, hl with | [_, _], _ => rfl),
    funOk_of X G c 5 5 (fun _ _ _ _ _ _ us hl => match us, hl with | [], _ => rfl),
    funOk_of X G c 6 6 (fun _ _ _ _ _ _ us hl => match us, hl with | [_, _], _ => rfl),
    funOk_of X G c 7 7 (fun _ _ _ _ _ _ us hl => match us, hl with | [_, _], _ => rfl),
    funOk_of X G c 8 8 (fun _ _ _ _ _ _ us hl => match us, hl with | [_, _, _], _ => rfl),
    funOk_of X G c 9 9 (fun _ _ _ _ _ _ us hl => match us, hl with | [_, _, _], _ => rfl),
    funOk_of X G c 10 10 (fun _ _ _ _ _ _ us hl => match us, hl with | [_, _], _ => rfl),
    funOk_of X G c 11 11 (fun _ _ _ _ _ _ us hl => match us, hl with | [_, _, _, _], _ => rfl),
    funOk_of X G c 12 12 (fun _ _ _ _ _ _ us hl => match us, hl with | [_], _ => rfl),
    funOk_of X G c 13 13 (fun _ _ _ _ _ _ us hl => match us, hl with | [_], _ => rfl),
    funOk_of X G c 14 14 (fun _ _ _ _ _ _ us hl => match us, hl with | [_, _], _ => rfl),
    funOk_of X G c 15 15 (fun _ _ _ _ _ _ us hl => match us, hl with | [_, _, _], _ => rfl),
    funOk_of X G c 16 16 (fun _ _ _ _ _ _ us hl => match us, hl with | [_, _, _], _ => rfl),
    funOk_of X G c 17 17 (fun _ _ _ _ _ _ us hl => match us, hl with | [_, _], _ => rfl),
    funOk_of X G c 18 18 (fun _ _ _ _ _ _ us hl => match us, hl with | [_], _ => rfl),
    funOk_of X G c 19 19 (fun _ _ _ _ _ _ us hl => match us, hl with | [_, _], _ => rfl),
    funOk_of X G c 20 20 (fun _ _ _ _ _ _ us hl => match us, hl with | [_, _, _], _ => rfl),
    funOk_of X G c 21 21 (fun _ _ _ _ _ _ us hl => match us, hl with | [_], _ => rfl),
    funOk_of X G c 22 22 (fun _ _ _ _ _ _ us hl => match us, hl with | [_], _ => rfl)⟩
  obtain ⟨fd, FD, b⟩ := law_fd (x := "law") (st := st_law) (ps := ["script"]) c 22 (fun _ _ _ _ _ _ us hl => match us, hl with | [_], _ => rfl)
  have e := hfa.symm.trans (He.glo_ok X G (c.fact 22 (f := .glo "law") rfl))
  cases e
  refine ⟨fd, fun s v => b s [v] rfl, fun base _ _ => ?_⟩
  have C := all_ok (P := P) (w := w) (base := base) (G := ⟨K, fun _ => .non, fun _ => .none⟩) rfl F 229
  exact fn_I FD sc_law fun cdv A outer s H E hr => d_law rfl Z C _ cdv A outer s H E hr
end K41
open PySem PySem.W PySem.Calls PyProof.Rows PI
theorem PySem.Challenge.cw_shapewright_k41_form_of_decision_graphs_holds : PySem.Challenge.rw_shapewright_k41_form_of_decision_graphs.Holds := by
  w_on; o_law
  refine HandSHeadRun.head_any (r := OpenLaw.row PySem.Challenge.rw_shapewright_k41_form_of_decision_graphs) (q := view (OpenLaw.row PySem.Challenge.rw_shapewright_k41_form_of_decision_graphs).prog [24]) (H := K41.hk) (ob := K41.ob) (M := 6000) (loose := K41.loose) (d := HandSHeadRun.topDef (OpenLaw.row PySem.Challenge.rw_shapewright_k41_form_of_decision_graphs).prog 24) (kwd := []) K41.ob_eq
    (by kernel_rfl) (fun s => by kernel_rfl) K41.run (by kernel_rfl) (by kernel_rfl) (by kernel_rfl) (by rfl) (by first | assumption | decide +kernel) (by decide +kernel) ⟨rfl, rfl, rfl, rfl, rfl, by decide +kernel⟩ ?hw ?hc
  case hw => w_witness2
  case hc =>
    refine PI.walk_ofEB (l := PySem.Challenge.rw_shapewright_k41_form_of_decision_graphs) (n := 63) (k := 230) (x := "script") (CX := fun w => L2.CX (PySem.Challenge.rw_shapewright_k41_form_of_decision_graphs).prog w) rfl (by decide) (by kernel_rfl) ⟨rfl, by decide, by decide⟩ ?F ?X
    case F =>
      intro w mg fa h Y G hmg0
      obtain ⟨K, KX, c, cx⟩ := Y
      have hmg : mg ("law" : PySem.Str) = some (.ref fa) := by
        have e : (HandSHeadRun.topDef (OpenLaw.row PySem.Challenge.rw_shapewright_k41_form_of_decision_graphs).prog 24).name = ("law" : PySem.Str) := by kernel_rfl
        rw [← e]
        exact hmg0
      obtain ⟨fd, hb, hF⟩ := K41.facts (P := (PySem.Challenge.rw_shapewright_k41_form_of_decision_graphs).prog) (w := w) KX G hmg c cx
      exact ⟨K, fd, _, KX, hb, fun H a ns hl hbt hO hS => PI.sp_law (K := K) rfl K41.plain H a ns hl hbt hO hS, hF⟩
    case X =>
      intro w H s e s' z
      exact PI.cx_none z
