import PyProof.Rows.All
import PySem.PyData
import Wide.All
import OpenK.AllK
import Wide.FinOn
import HandS.ForMost
import HandS.ForExc
import HandS.Flow
import HandS.Style
import HandS.IsInst
import HandS.TupAny
import HandS.Conv
import HandS.EndBits
import HandS.Wide
import HandS.TupMul
import HandS.Deep
import HandS.Rev
import HandS.Dict
import HandS.Zip
import KE.KDictZip
import KE.KItemsList
import HandS.Zip0
import KE.GoesMore
import HandS.Codes
import HandS.Head0
import HandS.Head1
import HandS.Head2
import HandS.HeadEnd
import HandS.HeadHook1
import HandS.HeadHook2
import PyProof.Rows.Walk
import HandS.DictComp
import HandS.ExcOwn
import HandS.TryOnly
import PySem.Challenge.RW_shapewright_k11_substitution
/-! ## Pi0 -/
set_option linter.all false
set_option autoImplicit false
/-! PI, part 0: plain denotations of Python's constructs. No model in sight. -/
namespace PI
/-- data: what never changes; ref n: the n-th object of the plain heap; cv n: a constant of the program (a def, a class) -/
inductive D where
  | non | bl (b : Bool) | int (i : Int) | str (s : List Nat) | tup (xs : List D) | ref (n : Nat) | cv (n : Nat)
  /-- a list that no one writes -/
  | rl (xs : List D)
  deriving Inhabited
mutual
def D.same : D → D → Bool
  | .non, .non => true
  | .bl a, .bl b => a == b
  | .int a, .int b => a == b
  | .str a, .str b => a == b
  | .tup a, .tup b => D.sameL a b
  | .ref a, .ref b => a == b
  | .cv a, .cv b => a == b
  | .rl a, .rl b => D.sameL a b
  | _, _ => false
def D.sameL : List D → List D → Bool
  | [], [] => true
  | x :: xs, y :: ys => D.same x y && D.sameL xs ys
  | _, _ => false
end
mutual
theorem D.same_refl : ∀ d : D, D.same d d = true
  | .non => by simp [D.same]
  | .bl _ => by simp [D.same]
  | .int _ => by simp [D.same]
  | .str _ => by simp [D.same]
  | .tup xs => by simp [D.same, D.sameL_refl xs]
  | .ref _ => by simp [D.same]
  | .cv _ => by simp [D.same]
  | .rl xs => by simp [D.same, D.sameL_refl xs]
theorem D.sameL_refl : ∀ ds : List D, D.sameL ds ds = true
  | [] => by simp [D.sameL]
  | x :: xs => by simp [D.sameL, D.same_refl x, D.sameL_refl xs]
end
mutual
theorem D.same_eq : ∀ (d e : D), D.same d e = true → d = e
  | .non, e, h => by cases e <;> simp_all [D.same]
  | .bl _, e, h => by cases e <;> simp_all [D.same]
  | .int _, e, h => by cases e <;> simp_all [D.same]
  | .str _, e, h => by cases e <;> simp_all [D.same]
  | .tup xs, e, h => by
    cases e with
    | tup ys => rw [D.same] at h; rw [D.sameL_eq xs ys h]
    | _ => simp [D.same] at h
  | .ref _, e, h => by cases e <;> simp_all [D.same]
  | .cv _, e, h => by cases e <;> simp_all [D.same]
  | .rl xs, e, h => by
    cases e with
    | rl ys => rw [D.same] at h; rw [D.sameL_eq xs ys h]
    | _ => simp [D.same] at h
theorem D.sameL_eq : ∀ (ds es : List D), D.sameL ds es = true → ds = es
  | [], es, h => by cases es <;> simp_all [D.sameL]
  | x :: xs, es, h => by
    cases es with
    | nil => simp [D.sameL] at h
    | cons y ys =>
      rw [D.sameL, Bool.and_eq_true] at h
      rw [D.same_eq x y h.1, D.sameL_eq xs ys h.2]
end
/-- a key of a dict -/
inductive Ky where
  | i (n : Int) | s (x : List Nat)
  deriving DecidableEq
inductive Ob where
  | lst (xs : List D)
  | dk (kvs : List (Ky × D))
  | dt (kvs : List (List Ky × D))
  | ins (c : Nat) (fs : List (List Nat × D))
abbrev Hh := List Ob
abbrev En := List (Option D)
inductive Res (α : Type) where
  | bad
  | ok (a : α) (h : Hh)
  | exc (c : Nat) (fs : List (List Nat × D)) (h : Hh)
variable {α β : Type}
def Res.bind (r : Res α) (k : α → Hh → Res β) : Res β := match r with
  | .bad => .bad
  | .ok a h => k a h
  | .exc c fs h => .exc c fs h
@[simp] theorem bind_bad {k : α → Hh → Res β} : Res.bind .bad k = .bad := rfl
@[simp] theorem bind_ok {a : α} {h : Hh} {k : α → Hh → Res β} : Res.bind (.ok a h) k = k a h := rfl
@[simp] theorem bind_exc {c : Nat} {fs : List (List Nat × D)} {h : Hh} {k : α → Hh → Res β} : Res.bind (.exc c fs h) k = .exc c fs h := rfl
/-- .. where no exception may come -/
def Res.bn (r : Res α) (k : α → Hh → Res β) : Res β := match r with
  | .ok a h => k a h
  | _ => .bad
@[simp] theorem bn_bad {k : α → Hh → Res β} : Res.bn .bad k = .bad := rfl
@[simp] theorem bn_ok {a : α} {h : Hh} {k : α → Hh → Res β} : Res.bn (.ok a h) k = k a h := rfl
@[simp] theorem bn_exc {c : Nat} {fs : List (List Nat × D)} {h : Hh} {k : α → Hh → Res β} : Res.bn (.exc c fs h) k = .bad := rfl
abbrev Den := En → Hh → Res D
abbrev TDen := En → Hh → Res Bool
abbrev ADen := En → Hh → Res (List D)
/-- where a statement ends -/
inductive Fl where
  | nx (e : En) | rt (d : D) | bk (e : En) | ct (e : En)
  /-- an exception of the class c, its fields, the names' values where it was raised -/
  | xc (c : Nat) (fs : List (List Nat × D)) (e : En)
abbrev SDen := En → Hh → Res Fl

/-! ### lines of the model -/
def SL : Nat := 16777216
def MUL : Nat := 100000000
/-- the list that stands at n -/
def lstAt (h : Hh) (n : Nat) : Option (List D) := match h[n]? with
  | some (.lst xs) => some xs
  | _ => none
/-- a list's items -/
def listOf (h : Hh) : D → Option (List D)
  | .ref n => lstAt h n
  | .rl xs => some xs
  | _ => none

/-! ### expressions -/
def dVar (i : Nat) : Den := fun e h => match e[i]? with
  | some (some d) => .ok d h
  | _ => .bad
def dC (d : D) : Den := fun _ h => .ok d h
def dBin (f : D → D → Hh → Res D) (a b : Den) : Den := fun e h => (a e h).bind fun x h1 => (b e h1).bind fun y h2 => f x y h2
def dUn (f : D → Hh → Res D) (a : Den) : Den := fun e h => (a e h).bind fun x h1 => f x h1
def aNil : ADen := fun _ h => .ok [] h
def aCons (a : Den) (r : ADen) : ADen := fun e h => (a e h).bind fun x h1 => (r e h1).bind fun xs h2 => .ok (x :: xs) h2
def dTup (a : ADen) : Den := fun e h => (a e h).bind fun xs h1 => if xs.length ≤ SL then .ok (.tup xs) h1 else .bad
def dLst (a : ADen) : Den := fun e h => (a e h).bind fun xs h1 => if xs.length ≤ SL then .ok (.ref h1.length) (h1 ++ [.lst xs]) else .bad
def dArgs (f : List D → Hh → Res D) (a : ADen) : Den := fun e h => (a e h).bind f

def mulOk (i j : Int) : Prop := i.natAbs.log2 + j.natAbs.log2 < MUL
instance (i j : Int) : Decidable (mulOk i j) := inferInstanceAs (Decidable (_ < _))
def divOk (j : Int) : Prop := j ≠ 0 ∧ j.natAbs.log2 < 8000
instance (j : Int) : Decidable (divOk j) := inferInstanceAs (Decidable (_ ∧ _))
def oAdd : D → D → Hh → Res D
  | .int i, .int j, h => .ok (.int (i + j)) h
  | .str a, .str b, h => if a.length + b.length ≤ SL then .ok (.str (a ++ b)) h else .bad
  | .tup a, .tup b, h => if a.length + b.length ≤ SL then .ok (.tup (a ++ b)) h else .bad
  | .ref a, .ref b, h => match h[a]?, h[b]? with
    | some (.lst xs), some (.lst ys) => if xs.length + ys.length ≤ SL then .ok (.ref h.length) (h ++ [.lst (xs ++ ys)]) else .bad
    | _, _ => .bad
  | _, _, _ => .bad
def oSub : D → D → Hh → Res D
  | .int i, .int j, h => .ok (.int (i - j)) h
  | _, _, _ => .bad
def oMul : D → D → Hh → Res D
  | .int i, .int j, h => if mulOk i j then .ok (.int (i * j)) h else .bad
  | .ref n, .int k, h => match h[n]? with
    | some (.lst xs) => if -(2 ^ 63) ≤ k ∧ k < 2 ^ 63 ∧ xs.length * k.toNat ≤ SL then .ok (.ref h.length) (h ++ [.lst (List.replicate k.toNat xs).flatten]) else .bad
    | _ => .bad
  | .tup xs, .int k, h => if xs ≠ [] ∧ 2 ≤ k ∧ k ≤ 1000 ∧ xs.length ≤ 1000 then .ok (.tup (List.replicate k.toNat xs).flatten) h else .bad
  | _, _, _ => .bad
def oDiv : D → D → Hh → Res D
  | .int i, .int j, h => if divOk j then .ok (.int (i.fdiv j)) h else .bad
  | _, _, _ => .bad
def oMod : D → D → Hh → Res D
  | .int i, .int j, h => if j ≠ 0 then .ok (.int (i.fmod j)) h else .bad
  | _, _, _ => .bad
def oPow : D → D → Hh → Res D
  | .int i, .int j, h => if 0 ≤ j ∧ j ≤ 1000000 ∧ i.natAbs < 2 ^ 64 then .ok (.int (i ^ j.toNat)) h else .bad
  | _, _, _ => .bad
def oNeg : D → Hh → Res D
  | .int i, h => .ok (.int (-i)) h
  | _, _ => .bad

/-- += of ints and texts; of two lists: in place -/
def oIadd : D → D → Hh → Res D
  | .int i, .int j, h => .ok (.int (i + j)) h
  | .str a, .str b, h => if a.length + b.length ≤ SL then .ok (.str (a ++ b)) h else .bad
  | .ref a, .ref b, h => match h[a]?, h[b]? with
    | some (.lst xs), some (.lst ys) => if xs.length + ys.length ≤ SL then .ok (.ref a) (h.set a (.lst (xs ++ ys))) else .bad
    | _, _ => .bad
  | _, _, _ => .bad
def oIaddI : D → D → Hh → Res D
  | .int i, .int j, h => .ok (.int (i + j)) h
  | _, _, _ => .bad
/-! ### comparisons -/
mutual
/-- no reference within -/
def D.flat : D → Bool
  | .non => true | .bl _ => true | .int _ => true
  | .str s => s.all (· < 0x110000)
  | .tup xs => D.flatL xs
  | .ref _ => false | .cv _ => false | .rl _ => false
def D.flatL : List D → Bool
  | [] => true
  | x :: xs => D.flat x && D.flatL xs
end
mutual
def D.deep : D → Nat
  | .tup xs => D.deepL xs + 1
  | _ => 0
def D.deepL : List D → Nat
  | [] => 0
  | x :: xs => max (D.deep x) (D.deepL xs)
end
mutual
/-- Python's == of flat data -/
def D.eqv : D → D → Bool
  | .non, .non => true
  | .bl a, .bl b => a == b
  | .bl a, .int j => (if a then 1 else 0) == j
  | .int i, .bl b => i == (if b then 1 else 0)
  | .int i, .int j => i == j
  | .str a, .str b => a == b
  | .tup a, .tup b => D.eqvL a b
  | _, _ => false
def D.eqvL : List D → List D → Bool
  | [], [] => true
  | x :: xs, y :: ys => D.eqv x y && D.eqvL xs ys
  | _, _ => false
end
/-- None, a bool, an int, a text -/
def D.scal : D → Bool
  | .non => true | .bl _ => true | .int _ => true | .str _ => true | _ => false
/-- an int against a bool: left to the deep rule -/
def D.scal2 : D → D → Bool
  | .int _, .bl _ => false | .bl _, .int _ => false
  | a, b => a.scal && b.scal
def D.fit (d : D) : Bool := d.flat && decide (d.deep ≤ 60)
def D.fitL (ds : List D) : Bool := D.flatL ds && decide (D.deepL ds ≤ 60)
/-- data that is deeper -/
def D.fit2 (d : D) : Bool := d.flat && decide (d.deep ≤ 180)
/-- == of parts: data, or lists of data -/
def eqE (h : Hh) (x y : D) : Option Bool := match listOf h x, listOf h y with
  | some a, some b => if D.fitL a && D.fitL b then some (D.eqvL a b) else none
  | none, none => if x.fit && y.fit then some (D.eqv x y) else none
  | _, _ => none
def eqEL (h : Hh) : List D → List D → Option Bool
  | [], [] => some true
  | x :: xs, y :: ys => match eqE h x y, eqEL h xs ys with
    | some a, some b => some (a && b)
    | _, _ => none
  | _, _ => none
/-- == -/
def eqR (h : Hh) (x y : D) : Option Bool :=
  if D.scal2 x y then some (D.eqv x y)
  else match listOf h x, listOf h y with
  | some a, some b => if D.fitL a && D.fitL b then some (D.eqvL a b) else none
  | some a, none => if D.fitL a && y.fit then some false else none
  | none, some b => if x.fit && D.fitL b then some false else none
  | none, none => if x.fit && y.fit then some (D.eqv x y) else match x, y with
    | .tup xs, .tup ys => (match eqEL h xs ys with
      | some b => some b
      | none => if x.fit2 && y.fit2 then some (D.eqv x y) else none)
    | _, _ => none
def cEq : D → D → Hh → Res D := fun x y h => match eqR h x y with
  | some b => .ok (.bl b) h
  | none => .bad
def cNe : D → D → Hh → Res D := fun x y h => match eqR h x y with
  | some b => .ok (.bl (!b)) h
  | none => .bad
def ltL : List Nat → List Nat → Bool := fun a b => decide (a < b)
def cLt : D → D → Hh → Res D
  | .int i, .int j, h => .ok (.bl (decide (i < j))) h
  | .str a, .str b, h => .ok (.bl (ltL a b)) h
  | _, _, _ => .bad
def cLe : D → D → Hh → Res D
  | .int i, .int j, h => .ok (.bl (decide (i ≤ j))) h
  | .str a, .str b, h => .ok (.bl (!ltL b a)) h
  | _, _, _ => .bad
def cGt : D → D → Hh → Res D
  | .int i, .int j, h => .ok (.bl (decide (j < i))) h
  | .str a, .str b, h => .ok (.bl (ltL b a)) h
  | _, _, _ => .bad
def cGe : D → D → Hh → Res D
  | .int i, .int j, h => .ok (.bl (decide (j ≤ i))) h
  | .str a, .str b, h => .ok (.bl (!ltL a b)) h
  | _, _, _ => .bad
/-- is None, is not None; is True, is False and their nots are told of bools alone -/
def isN : D → Option Bool
  | .non => some true
  | .cv _ => none
  | _ => some false
def cIsN : D → Hh → Res D := fun x h => match isN x with
  | some b => .ok (.bl b) h
  | none => .bad
def cNotN : D → Hh → Res D := fun x h => match isN x with
  | some b => .ok (.bl (!b)) h
  | none => .bad
/-- x is c, c a bool -/
def isBl (c : Bool) : D → Option Bool
  | .bl a => some (decide (a = c))
  | .cv _ => none
  | _ => some false
/-- is, is not with True, False -/
def cIsB : D → D → Hh → Res D
  | x, .bl c, h => match isBl c x with
    | some b => .ok (.bl b) h
    | none => .bad
  | _, _, _ => .bad
def cNotB : D → D → Hh → Res D
  | x, .bl c, h => match isBl c x with
    | some b => .ok (.bl (!b)) h
    | none => .bad
  | _, _, _ => .bad
/-- x in items, both flat -/
def anyEq (x : D) : List D → Bool
  | [] => false
  | y :: ys => D.eqv y x || anyEq x ys
def inItems (x : D) (xs : List D) : Option Bool := if x.scal && xs.all D.scal then some (anyEq x xs) else none
/-- the same of data of any depth -/
def inDeep (x : D) (xs : List D) : Option Bool := if x.fit && D.fitL xs then some (anyEq x xs) else none
/-- a key's form -/
def keyOf : D → Option Ky
  | .int i => some (.i i)
  | .str s => some (.s s)
  | _ => none
def keysOf : List D → Option (List Ky)
  | [] => some []
  | d :: ds => match keyOf d, keysOf ds with
    | some k, some ks => some (k :: ks)
    | _, _ => none
def inR (h : Hh) (x y : D) : Option Bool := match y with
  | .tup ys => inItems x ys
  | .str s => match x with
    | .str [c] => some (decide (c ∈ s))
    | _ => none
  | y => match listOf h y with
    | some ys => (match inItems x ys with
      | some b => some b
      | none => inDeep x ys)
    | none => none
def cIn : D → D → Hh → Res D := fun x y h => match inR h x y with
  | some b => .ok (.bl b) h
  | none => .bad
def cNin : D → D → Hh → Res D := fun x y h => match inR h x y with
  | some b => .ok (.bl (!b)) h
  | none => .bad
/-- a op b op' c -/
def dChain (f g : D → D → Hh → Res D) (a b c : Den) : Den := fun e h => (a e h).bind fun x h1 => (b e h1).bind fun y h2 => (f x y h2).bind fun z h3 => match z with
  | .bl true => (c e h3).bind fun w h4 => g y w h4
  | .bl false => .ok (.bl false) h3
  | _ => .bad

/-! ### dicts keyed by ints and texts -/
def valK (kvs : List (Ky × D)) (k : Ky) : Option D := match kvs with
  | [] => none
  | (q, d) :: r => if q = k then some d else valK r k
def setK (kvs : List (Ky × D)) (k : Ky) (d : D) : List (Ky × D) :=
  if (kvs.any fun kv => decide (kv.1 = k)) = true then kvs.map (fun kv => if kv.1 = k then (kv.1, d) else kv) else kvs ++ [(k, d)]
def dkAt (h : Hh) (n : Nat) : Option (List (Ky × D)) := match h[n]? with
  | some (.dk kvs) => some kvs
  | _ => none
/-- what d[y] is: y's key, then what stands there -/
def dkGet (h : Hh) (x y : D) : Option (Option D) := match x, keyOf y with
  | .ref n, some k => (match dkAt h n with
    | some kvs => some (valK kvs k)
    | none => none)
  | _, _ => none
def dDGet (a b : Den) : Den := fun e h => (a e h).bind fun x h1 => (b e h1).bind fun y h2 => match dkGet h2 x y with
  | some (some d) => .ok d h2
  | _ => .bad
def dDIn (a b : Den) : Den := fun e h => (a e h).bind fun y h1 => (b e h1).bind fun x h2 => match dkGet h2 x y with
  | some o => .ok (.bl o.isSome) h2
  | none => .bad
def dDNin (a b : Den) : Den := fun e h => (a e h).bind fun y h1 => (b e h1).bind fun x h2 => match dkGet h2 x y with
  | some o => .ok (.bl (!o.isSome)) h2
  | none => .bad
def isDk (h : Hh) : D → Bool
  | .ref n => (dkAt h n).isSome
  | _ => false
/-- d.get(y), d.get(y, z) -/
def dGet1 (a b : Den) : Den := fun e h => (a e h).bind fun x h1 => if isDk h1 x = true then (b e h1).bind fun y h2 => match dkGet h2 x y with
  | some o => .ok (o.getD .non) h2
  | none => .bad else .bad
def dGet2 (a b c : Den) : Den := fun e h => (a e h).bind fun x h1 => if isDk h1 x = true then (b e h1).bind fun y h2 => (c e h2).bind fun z h3 => match dkGet h3 x y with
  | some o => .ok (o.getD z) h3
  | none => .bad else .bad
def dNewK : Den := fun _ h => .ok (.ref h.length) (h ++ [.dk []])
/-- d[y] = v behind the three -/
def dkPut (x y v : D) (h : Hh) : Res Unit := match x, keyOf y with
  | .ref n, some k => (match dkAt h n with
    | some kvs => if kvs.length < SL then .ok () (h.set n (.dk (setK kvs k v))) else .bad
    | none => .bad)
  | _, _ => .bad
/-! ### truth, tests -/
def truth (h : Hh) : D → Option Bool
  | .non => some false
  | .bl b => some b
  | .int i => some (i != 0)
  | .str s => if s.length ≤ SL then some (!s.isEmpty) else none
  | .tup xs => some (!xs.isEmpty)
  | .ref n => match h[n]? with
    | some (.lst xs) => some (!xs.isEmpty)
    | some (.dk kvs) => some (!kvs.isEmpty)
    | _ => none
  | .rl xs => some (!xs.isEmpty)
  | .cv _ => none
/-- an expression that gives a bool, as a test -/
def tV (a : Den) : TDen := fun e h => (a e h).bind fun x h1 => match x with
  | .bl b => .ok b h1
  | _ => .bad
def tT (a : Den) : TDen := fun e h => (a e h).bind fun x h1 => match truth h1 x with
  | some b => .ok b h1
  | none => .bad
def tAnd (a b : TDen) : TDen := fun e h => (a e h).bind fun x h1 => if x = true then b e h1 else .ok false h1
def tOr (a b : TDen) : TDen := fun e h => (a e h).bind fun x h1 => if x = true then .ok true h1 else b e h1
def tNot (a : TDen) : TDen := fun e h => (a e h).bind fun x h1 => .ok (!x) h1
def dAnd (a b : Den) : Den := fun e h => (a e h).bind fun x h1 => match truth h1 x with
  | some true => b e h1
  | some false => .ok x h1
  | none => .bad
def dOr (a b : Den) : Den := fun e h => (a e h).bind fun x h1 => match truth h1 x with
  | some true => .ok x h1
  | some false => b e h1
  | none => .bad
def dNot (a : Den) : Den := fun e h => (a e h).bind fun x h1 => match truth h1 x with
  | some b => .ok (.bl (!b)) h1
  | none => .bad
def dIf (t : TDen) (a b : Den) : Den := fun e h => (t e h).bind fun x h1 => if x = true then a e h1 else b e h1

/-! ### places and cuts -/
/-- the place of the index i among n items -/
def ixOf (n : Nat) (i : Int) : Option Nat := if 0 ≤ i then (if i < n then some i.toNat else none) else if -(n : Int) ≤ i then some (i + n).toNat else none
def atIx {γ : Type} (xs : List γ) (i : Int) : Option γ := (ixOf xs.length i).bind fun j => xs[j]?
def oIx : D → D → Hh → Res D
  | .tup xs, .int i, h => match atIx xs i with
    | some d => .ok d h
    | none => .bad
  | .str s, .int i, h => if s.length ≤ SL then (match atIx s i with
    | some c => .ok (.str [c]) h
    | none => .bad) else .bad
  | x, .int i, h => match listOf h x with
    | some xs => (match atIx xs i with
      | some d => .ok d h
      | none => .bad)
    | none => .bad
  | _, _, _ => .bad
def sIdx (n d : Nat) : Option Int → Nat
  | none => d
  | some v => if v < 0 then (v + (n : Int)).toNat else min v.toNat n
def cut {γ : Type} (xs : List γ) (lo hi : Option Int) : List γ := (xs.drop (sIdx xs.length 0 lo)).take (sIdx xs.length xs.length hi - sIdx xs.length 0 lo)
def oSl (x : D) (lo hi : Option Int) (h : Hh) : Res D := match x with
  | .tup xs => .ok (.tup (cut xs lo hi)) h
  | .str s => if s.length ≤ SL then .ok (.str (cut s lo hi)) h else .bad
  | x => match listOf h x with
    | some xs => .ok (.ref h.length) (h ++ [.lst (cut xs lo hi)])
    | none => .bad
abbrev ODen := En → Hh → Res (Option Int)
def pNone : ODen := fun _ h => .ok none h
def pSome (a : Den) : ODen := fun e h => (a e h).bind fun x h1 => match x with
  | .int i => .ok (some i) h1
  | _ => .bad
def dSl (a : Den) (lo hi : ODen) : Den := fun e h => (a e h).bind fun x h1 => (lo e h1).bind fun l h2 => (hi e h2).bind fun u h3 => oSl x l u h3

/-! ### built-ins by name -/
def bLen : List D → Hh → Res D
  | [.tup xs], h => .ok (.int xs.length) h
  | [.str s], h => if s.length ≤ SL then .ok (.int s.length) h else .bad
  | [.ref n], h => match h[n]? with
    | some (.lst xs) => .ok (.int xs.length) h
    | some (.dk kvs) => .ok (.int kvs.length) h
    | _ => .bad
  | [.rl xs], h => .ok (.int xs.length) h
  | _, _ => .bad
def bList : List D → Hh → Res D
  | [.tup xs], h => .ok (.ref h.length) (h ++ [.lst xs])
  | [x], h => match listOf h x with
    | some xs => .ok (.ref h.length) (h ++ [.lst xs])
    | none => .bad
  | _, _ => .bad
def bTuple : List D → Hh → Res D
  | [.tup xs], h => .ok (.tup xs) h
  | [x], h => match listOf h x with
    | some xs => .ok (.tup xs) h
    | none => .bad
  | _, _ => .bad
def bInt : List D → Hh → Res D
  | [.int i], h => .ok (.int i) h
  | [.bl b], h => .ok (.int (if b then 1 else 0)) h
  | _, _ => .bad
def bAbs : List D → Hh → Res D
  | [.int i], h => .ok (.int (if i < 0 then -i else i)) h
  | _, _ => .bad
def intsOf : List D → Option (List Int)
  | [] => some []
  | .int i :: ds => (intsOf ds).map (i :: ·)
  | _ :: _ => none
def blsOf : List D → Option (List Bool)
  | [] => some []
  | .bl b :: ds => (blsOf ds).map (b :: ·)
  | _ :: _ => none
def strsOf : List D → Option (List (List Nat))
  | [] => some []
  | .str s :: ds => (strsOf ds).map (s :: ·)
  | _ :: _ => none
def bSum : List D → Hh → Res D
  | [x], h => match (listOf h x).bind intsOf with
    | some is => .ok (.int is.sum) h
    | none => .bad
  | _, _ => .bad
def bAll : List D → Hh → Res D
  | [x], h => match (listOf h x).bind blsOf with
    | some bs => .ok (.bl (bs.all id)) h
    | none => .bad
  | _, _ => .bad
def bAny : List D → Hh → Res D
  | [x], h => match (listOf h x).bind blsOf with
    | some bs => .ok (.bl (bs.any id)) h
    | none => .bad
  | _, _ => .bad
def bMax2 : List D → Hh → Res D
  | [.int i, .int j], h => .ok (.int (if j > i then j else i)) h
  | _, _ => .bad
def bMin2 : List D → Hh → Res D
  | [.int i, .int j], h => .ok (.int (if j < i then j else i)) h
  | _, _ => .bad
def maxL : Int → List Int → Int
  | m, [] => m
  | m, i :: is => maxL (if i > m then i else m) is
def minL : Int → List Int → Int
  | m, [] => m
  | m, i :: is => minL (if i < m then i else m) is
/-- max, min of a list -/
def bMax1 : List D → Hh → Res D
  | [x], h => match (listOf h x).bind intsOf with
    | some (i :: is) => .ok (.int (maxL i is)) h
    | _ => .bad
  | _, _ => .bad
def bMin1 : List D → Hh → Res D
  | [x], h => match (listOf h x).bind intsOf with
    | some (i :: is) => .ok (.int (minL i is)) h
    | _ => .bad
  | _, _ => .bad
/-- xs[::-1] of a list -/
def oRev (x : D) (h : Hh) : Res D := match listOf h x with
  | some xs => .ok (.ref h.length) (h ++ [.lst xs.reverse])
  | none => .bad
/-- isinstance with a built-in class -/
inductive Ty where
  | int | bool | str | tuple | list | dict
  deriving DecidableEq
def isA (h : Hh) (t : Ty) : D → Option Bool
  | .non => some false
  | .bl _ => some (decide (t = .bool ∨ t = .int))
  | .int _ => some (decide (t = .int))
  | .str _ => some (decide (t = .str))
  | .tup _ => some (decide (t = .tuple))
  | .ref n => match h[n]? with
    | some (.lst _) => some (decide (t = .list))
    | some (.dk _) => some (decide (t = .dict))
    | some (.dt _) => some (decide (t = .dict))
    | _ => none
  | .rl _ => some (decide (t = .list))
  | .cv _ => none
def dIsA (t : Ty) (a : Den) : Den := fun e h => (a e h).bind fun x h1 => match isA h1 t x with
  | some b => .ok (.bl b) h1
  | none => .bad

/-! ### methods of lists -/
def lineI (i : Int) : Prop := -(2 ^ 62) ≤ i ∧ i < 2 ^ 62
instance (i : Int) : Decidable (lineI i) := inferInstanceAs (Decidable (_ ∧ _))
def mAppend : D → List D → Hh → Res D
  | .ref n, [d], h => match h[n]? with
    | some (.lst xs) => if xs.length < SL then .ok .non (h.set n (.lst (xs ++ [d]))) else .bad
    | _ => .bad
  | _, _, _ => .bad
/-- ys itself: another list that stands by itself -/
def mExtend : D → List D → Hh → Res D
  | .ref n, [.ref m], h => match h[n]?, h[m]? with
    | some (.lst xs), some (.lst ys) => if xs.length + ys.length ≤ SL then .ok .non (h.set n (.lst (xs ++ ys))) else .bad
    | _, _ => .bad
  | _, _, _ => .bad
def mPop : D → List D → Hh → Res D
  | .ref n, [], h => match h[n]? with
    | some (.lst xs) => (match xs.getLast? with
      | some d => .ok d (h.set n (.lst xs.dropLast))
      | none => .bad)
    | _ => .bad
  | _, _, _ => .bad
def mPopAt : D → List D → Hh → Res D
  | .ref n, [.int i], h => match h[n]? with
    | some (.lst xs) => if lineI i then (match ixOf xs.length i with
      | some k => (match xs[k]? with
        | some d => .ok d (h.set n (.lst (xs.eraseIdx k)))
        | none => .bad)
      | none => .bad) else .bad
    | _ => .bad
  | _, _, _ => .bad
def isLst (h : Hh) (d : D) : Bool := (listOf h d).isSome
def dMeth (f : D → List D → Hh → Res D) (a : Den) (r : ADen) : Den := fun e h => (a e h).bind fun x h1 => if isLst h1 x = true then (r e h1).bind fun xs h2 => f x xs h2 else .bad

/-- the place of the first item that equals x -/
def idxOf (x : D) : List D → Option Nat
  | [] => none
  | y :: ys => if D.eqv y x = true then some 0 else (idxOf x ys).map (· + 1)
def mIndex : D → List D → Hh → Res D := fun o as h => match as with
  | [d] => match listOf h o with
    | some xs => if (D.fitL xs && d.fit) = true then (match idxOf d xs with
      | some j => .ok (.int (j : Nat)) h
      | none => .bad) else .bad
    | none => .bad
  | _ => .bad
/-- str(n) -/
def decStr (i : Int) : List Nat := (toString i).toList.map Char.toNat
def bStr : List D → Hh → Res D
  | [.int i], h => if i.natAbs.log2 < 1920 then .ok (.str (decStr i)) h else .bad
  | _, _ => .bad

/-! ### what is walked -/
/-- items that stand still | a list that has to stand still | a count -/
inductive Wk where
  | its (xs : List D) | lst (n : Nat) (xs : List D) | rng (lo : Int) (n : Nat)
  /-- a list walked from its end -/
  | rvl (n : Nat) (xs : List D)
  /-- a list walked with its places -/
  | enl (n : Nat) (xs : List D)
  /-- two lists walked side by side -/
  | zpl (m : Nat) (xs : List D) (n : Nat) (ys : List D)
abbrev WDen := En → Hh → Res Wk
def wSeq (a : Den) : WDen := fun e h => (a e h).bind fun x h1 => match x with
  | .tup xs => .ok (.its xs) h1
  | .rl xs => .ok (.its xs) h1
  | .ref n => match lstAt h1 n with
    | some xs => .ok (.lst n xs) h1
    | none => .bad
  | _ => .bad
def wStr (a : Den) : WDen := fun e h => (a e h).bind fun x h1 => match x with
  | .str s => .ok (.its (s.map fun c => .str [c])) h1
  | _ => .bad
def wRng1 (a : Den) : WDen := fun e h => (a e h).bind fun x h1 => match x with
  | .int j => if lineI j then .ok (.rng 0 j.toNat) h1 else .bad
  | _ => .bad
def wRng2 (a b : Den) : WDen := fun e h => (a e h).bind fun x h1 => (b e h1).bind fun y h2 => match x, y with
  | .int i, .int j => if lineI i ∧ lineI j then .ok (.rng i (j - i).toNat) h2 else .bad
  | _, _ => .bad
def zipD : List D → List D → List D
  | x :: xs, y :: ys => .tup [x, y] :: zipD xs ys
  | _, _ => []
theorem zipD_at : ∀ {xs ys : List D} {i : Nat} {d : D}, (zipD xs ys)[i]? = some d → ∃ x y, xs[i]? = some x ∧ ys[i]? = some y ∧ d = .tup [x, y]
  | [], _, _, _, e => by simp [zipD] at e
  | _ :: _, [], _, _, e => by simp [zipD] at e
  | x :: xs, y :: ys, 0, d, e => by
    simp [zipD] at e
    exact ⟨x, y, rfl, rfl, e.symm⟩
  | x :: xs, y :: ys, i + 1, d, e => by
    obtain ⟨x', y', h1, h2, h3⟩ := zipD_at (xs := xs) (ys := ys) (i := i) (d := d) (by simpa [zipD] using e)
    exact ⟨x', y', by simpa using h1, by simpa using h2, h3⟩
theorem zipD_len : ∀ (xs ys : List D), (zipD xs ys).length = min xs.length ys.length
  | [], _ => by simp [zipD]
  | _ :: _, [] => by simp [zipD]
  | x :: xs, y :: ys => by
    simp only [zipD, List.length_cons, zipD_len xs ys]
    omega
def enumD (i : Nat) : List D → List D
  | [] => []
  | x :: xs => .tup [.int (i : Nat), x] :: enumD (i + 1) xs
/-- the items -/
def Wk.items : Wk → List D
  | .its xs => xs
  | .lst _ xs => xs
  | .rvl _ xs => xs.reverse
  | .enl _ xs => enumD 0 xs
  | .zpl _ xs _ ys => zipD xs ys
  | .rng lo n => (List.range n).map fun (i : Nat) => D.int (lo + (i : Int))
/-- it stands still in h -/
def Wk.still (h : Hh) : Wk → Bool
  | .its _ => true
  | .lst n xs => match lstAt h n with
    | some ys => D.sameL ys xs
    | none => false
  | .rvl n xs => match lstAt h n with
    | some ys => D.sameL ys xs
    | none => false
  | .enl n xs => match lstAt h n with
    | some ys => D.sameL ys xs
    | none => false
  | .zpl m xs n ys => match lstAt h m, lstAt h n with
    | some us, some vs => D.sameL us xs && D.sameL vs ys
    | _, _ => false
  | .rng _ _ => true
theorem Wk.still_lst {h : Hh} {n : Nat} {xs : List D} (e : lstAt h n = some xs) : Wk.still h (.lst n xs) = true := by
  simp only [Wk.still, e]
  exact D.sameL_refl xs

theorem Wk.still_zpl {h : Hh} {m n : Nat} {xs ys : List D} (e : lstAt h m = some xs) (e2 : lstAt h n = some ys) : Wk.still h (.zpl m xs n ys) = true := by
  simp only [Wk.still, e, e2, D.sameL_refl]
  rfl
theorem Wk.still_enl {h : Hh} {n : Nat} {xs : List D} (e : lstAt h n = some xs) : Wk.still h (.enl n xs) = true := by
  simp only [Wk.still, e]
  exact D.sameL_refl xs
theorem Wk.still_rvl {h : Hh} {n : Nat} {xs : List D} (e : lstAt h n = some xs) : Wk.still h (.rvl n xs) = true := by
  simp only [Wk.still, e]
  exact D.sameL_refl xs
/-- reversed(x) -/
def wRev (a : Den) : WDen := fun e h => (a e h).bind fun x h1 => match x with
  | .tup xs => .ok (.its xs.reverse) h1
  | .rl xs => .ok (.its xs.reverse) h1
  | .ref n => match lstAt h1 n with
    | some xs => .ok (.rvl n xs) h1
    | none => .bad
  | _ => .bad

/-- zip(x, y) of two tuples, two lists -/
def wZip (a b : Den) : WDen := fun e h => (a e h).bind fun x h1 => (b e h1).bind fun y h2 => match x, y with
  | .tup xs, .tup ys => .ok (.its (zipD xs ys)) h2
  | .ref m, .ref n => match lstAt h2 m, lstAt h2 n with
    | some xs, some ys => .ok (.zpl m xs n ys) h2
    | _, _ => .bad
  | _, _ => .bad
/-- list(zip(x, y)) of two tuples -/
def dZipL (a b : Den) : Den := fun e h => (a e h).bind fun x h1 => (b e h1).bind fun y h2 => match x, y with
  | .tup xs, .tup ys => .ok (.ref h2.length) (h2 ++ [.lst (zipD xs ys)])
  | _, _ => .bad
theorem enumD_len : ∀ (i : Nat) (xs : List D), (enumD i xs).length = xs.length
  | _, [] => rfl
  | i, x :: xs => by rw [enumD, List.length_cons, List.length_cons, enumD_len]
theorem enumD_at : ∀ {i j : Nat} {xs : List D} {d : D}, (enumD i xs)[j]? = some d → ∃ x, xs[j]? = some x ∧ d = .tup [.int ((i + j : Nat) : Int), x]
  | _, _, [], _, e => by simp [enumD] at e
  | i, 0, x :: xs, d, e => by
    simp [enumD] at e
    exact ⟨x, rfl, e.symm⟩
  | i, j + 1, x :: xs, d, e => by
    obtain ⟨y, h1, h2⟩ := enumD_at (i := i + 1) (j := j) (xs := xs) (d := d) (by simpa [enumD] using e)
    refine ⟨y, by simpa using h1, ?_⟩
    rw [h2, show i + 1 + j = i + (j + 1) by omega]
/-- enumerate(x) -/
def wEnum (a : Den) : WDen := fun e h => (a e h).bind fun x h1 => match x with
  | .tup xs => .ok (.its (enumD 0 xs)) h1
  | .rl xs => .ok (.its (enumD 0 xs)) h1
  | .ref n => match lstAt h1 n with
    | some xs => .ok (.enl n xs) h1
    | none => .bad
  | _ => .bad
/-- sep.join(xs) -/
def joinN (s : List Nat) : List (List Nat) → List Nat
  | [] => []
  | [p] => p
  | p :: q :: r => p ++ (s ++ joinN s (q :: r))
def joinOk (s : List Nat) (ys : List (List Nat)) : Bool := decide ((ys.map List.length).sum + ys.length * s.length ≤ SL)
def itemsOf (h : Hh) : D → Option (List D)
  | .tup xs => some xs
  | x => listOf h x
def oJoin : D → D → Hh → Res D
  | .str s, x, h => match (itemsOf h x).bind strsOf with
    | some ys => if joinOk s ys = true then .ok (.str (joinN s ys)) h else .bad
    | none => .bad
  | _, _, _ => .bad
def isStr : D → Bool
  | .str _ => true
  | _ => false
def dJoin (a b : Den) : Den := fun e h => (a e h).bind fun x h1 => if isStr x = true then (b e h1).bind fun y h2 => oJoin x y h2 else .bad
/-! ### targets -/
abbrev GDen := D → En → Hh → Res En
def gNm (i : Nat) : GDen := fun d e h => .ok (e.set i (some d)) h
abbrev GsDen := List D → En → Hh → Res En
def gsNil : GsDen := fun ds e h => match ds with
  | [] => .ok e h
  | _ => .bad
def gsCons (g : GDen) (r : GsDen) : GsDen := fun ds e h => match ds with
  | d :: ds => (g d e h).bind fun e1 h1 => r ds e1 h1
  | [] => .bad
/-- (a, b, ..) = a tuple of that length -/
def gTp (n : Nat) (g : GsDen) : GDen := fun d e h => match d with
  | .tup ds => if ds.length = n then g ds e h else .bad
  | _ => .bad
/-- o[i] = d -/
def setAt (o i d : D) (h : Hh) : Res D := match o, i with
  | .ref n, .int k => match h[n]? with
    | some (.lst xs) => (match ixOf xs.length k with
      | some j => .ok .non (h.set n (.lst (xs.set j d)))
      | none => .bad)
    | _ => .bad
  | _, _ => .bad
def gSb (o i : Den) : GDen := fun d e h => (o e h).bind fun x h1 => (i e h1).bind fun y h2 => (setAt x y d h2).bind fun _ h3 => .ok e h3

/-! ### comprehensions -/
def forget (e : En) : List Nat → En
  | [] => e
  | v :: vs => (forget e vs).set v none
/-- the turns of [elt for g in items if t] -/
def compGo (w : Wk) (vs : List Nat) (g : GDen) (t : TDen) (elt : Den) (e : En) : List D → List D → Hh → Res (List D)
  | [], acc, h => if w.still h then .ok acc h else .bad
  | d :: ds, acc, h => if w.still h then (g d (forget e vs) h).bn fun e1 h1 => (t e1 h1).bn fun b h2 =>
      if b = true then (elt e1 h2).bn fun x h3 => if acc.length < SL then compGo w vs g t elt e ds (acc ++ [x]) h3 else .bad else compGo w vs g t elt e ds acc h2
    else .bad
/-- the items of the comprehension, no list made -/
def aComp (w : WDen) (vs : List Nat) (g : GDen) (t : TDen) (elt : Den) : ADen := fun e h => (w e h).bind fun k h1 => compGo k vs g t elt e k.items [] h1
def tYes : TDen := fun _ h => .ok true h
/-- a new list -/
def dLc (a : ADen) : Den := fun e h => (a e h).bind fun xs h1 => .ok (.ref h1.length) (h1 ++ [.lst xs])
/-- tuple([..]), all([..]), any([..]), sum([..]): the list itself is forgotten -/
def fTup (ds : List D) (h : Hh) : Res D := .ok (.tup ds) h
def fAll (ds : List D) (h : Hh) : Res D := match blsOf ds with
  | some bs => .ok (.bl (bs.all id)) h
  | none => .bad
def fAny (ds : List D) (h : Hh) : Res D := match blsOf ds with
  | some bs => .ok (.bl (bs.any id)) h
  | none => .bad
def fSum (ds : List D) (h : Hh) : Res D := match intsOf ds with
  | some is => .ok (.int is.sum) h
  | none => .bad
/-- x.extend([..]) -/
def mExtL : D → List D → Hh → Res D
  | .ref n, ys, h => match h[n]? with
    | some (.lst xs) => if xs.length + ys.length ≤ SL then .ok .non (h.set n (.lst (xs ++ ys))) else .bad
    | _ => .bad
  | _, _, _ => .bad

/-! ### statements -/
/-- an expression's exception becomes the statement's -/
def Res.sb (r : Res α) (e : En) (k : α → Hh → Res Fl) : Res Fl := match r with
  | .bad => .bad
  | .ok a h => k a h
  | .exc c fs h => .ok (.xc c fs e) h
@[simp] theorem sb_bad {e : En} {k : α → Hh → Res Fl} : Res.sb .bad e k = .bad := rfl
@[simp] theorem sb_ok {a : α} {h : Hh} {e : En} {k : α → Hh → Res Fl} : Res.sb (.ok a h) e k = k a h := rfl
@[simp] theorem sb_exc {c : Nat} {fs : List (List Nat × D)} {h : Hh} {e : En} {k : α → Hh → Res Fl} : Res.sb (.exc c fs h) e k = .ok (.xc c fs e) h := rfl
def sNil : SDen := fun e h => .ok (.nx e) h
def sSeq (a b : SDen) : SDen := fun e h => (a e h).bind fun f h1 => match f with
  | .nx e1 => b e1 h1
  | o => .ok o h1
def sExpr (a : Den) : SDen := fun e h => (a e h).sb e fun _ h1 => .ok (.nx e) h1
def sRet (a : Den) : SDen := fun e h => (a e h).sb e fun x h1 => .ok (.rt x) h1
def sRetN : SDen := fun _ h => .ok (.rt .non) h
def sBreak : SDen := fun e h => .ok (.bk e) h
def sCont : SDen := fun e h => .ok (.ct e) h
def sAsg (a : Den) (g : GDen) : SDen := fun e h => (a e h).sb e fun x h1 => (g x e h1).sb e fun e1 h2 => .ok (.nx e1) h2
/-- a, b = x, y -/
def sPar (i j : Nat) (a b : Den) : SDen := fun e h => (a e h).sb e fun x h1 => (b e h1).sb e fun y h2 => .ok (.nx ((e.set i (some x)).set j (some y))) h2
/-- x op= a -/
def sAug (i : Nat) (f : D → D → Hh → Res D) (a : Den) : SDen := fun e h => match e[i]? with
  | some (some x) => (a e h).sb e fun y h1 => (f x y h1).sb e fun z h2 => .ok (.nx (e.set i (some z))) h2
  | _ => .bad
/-- o[i] = a, o a dict: a, o, i are read in this order -/
def sDSet (o i a : Den) : SDen := fun e h => (a e h).sb e fun v h1 => (o e h1).sb e fun x h2 => (i e h2).sb e fun y h3 => (dkPut x y v h3).sb e fun _ h4 => .ok (.nx e) h4
/-- o[i] op= a -/
def sDAug (f : D → D → Hh → Res D) (o i a : Den) : SDen := fun e h => (o e h).sb e fun x h1 => (i e h1).sb e fun y h2 => match dkGet h2 x y with
  | some (some v) => (a e h2).sb e fun w h3 => (f v w h3).sb e fun z h4 => (dkPut x y z h4).sb e fun _ h5 => .ok (.nx e) h5
  | _ => .bad
def sIf (t : TDen) (a b : SDen) : SDen := fun e h => (t e h).sb e fun x h1 => if x = true then a e h1 else b e h1
/-- the turns of a for -/
def forGo (w : Wk) (g : GDen) (b : SDen) : List D → En → Hh → Res Fl
  | [], e, h => if w.still h then .ok (.nx e) h else .bad
  | d :: ds, e, h => if w.still h then (g d e h).sb e fun e1 h1 => (b e1 h1).bind fun f h2 => match f with
      | .nx e2 => forGo w g b ds e2 h2
      | .ct e2 => forGo w g b ds e2 h2
      | .bk e2 => .ok (.nx e2) h2
      | .rt d => .ok (.rt d) h2
      | .xc c fs e2 => .ok (.xc c fs e2) h2
    else .bad
def sFor (w : WDen) (g : GDen) (b : SDen) : SDen := fun e h => (w e h).sb e fun k h1 => forGo k g b k.items e h1
/-- the turns of a while, at most n of them -/
def whGo (t : TDen) (b : SDen) : Nat → En → Hh → Res Fl
  | 0, _, _ => .bad
  | n + 1, e, h => (t e h).sb e fun x h1 => if x = true then (b e h1).bind fun f h2 => match f with
      | .nx e2 => whGo t b n e2 h2
      | .ct e2 => whGo t b n e2 h2
      | .bk e2 => .ok (.nx e2) h2
      | .rt d => .ok (.rt d) h2
      | .xc c fs e2 => .ok (.xc c fs e2) h2
    else .ok (.nx e) h1
def WF : Nat := 1000000000000
def sWhile (t : TDen) (b : SDen) : SDen := fun e h => whGo t b WF e h

/-- what the plain side has to show unreached -/
def dBad : Den := fun _ _ => .bad
def sBad : SDen := fun _ _ => .bad
/-! ### defs -/
abbrev Cal := Nat → List D → Hh → Res D
def dCall (c : Cal) (k : Nat) (a : ADen) : Den := fun e h => (a e h).bind fun xs h1 => c k xs h1
/-- the arguments' number is asked of the denotation -/
def dCallN (c : Cal) (k np : Nat) (a : ADen) : Den := fun e h => (a e h).bind fun xs h1 => if xs.length = np then c k xs h1 else .bad
def dCall0 (c : Cal) (k : Nat) : Den := fun _ h => match c k [] h with
  | .ok d h1 => .ok d h1
  | _ => .bad
/-- a body run at its parameters: n names in all -/
def runBody (n : Nat) (b : SDen) (ps : Nat) (ds : List D) (h : Hh) : Res D :=
  if ds.length = ps then (b (ds.map some ++ List.replicate (n - ps) none) h).bn fun f h1 => match f with
    | .rt d => .ok d h1
    | .nx _ => .ok .non h1
    | .xc c fs _ => .exc c fs h1
    | _ => .bad
  else .bad
/-- a def: all its names, its parameters, its body over the others -/
structure Df where
  n : Nat
  ps : Nat
  b : Cal → SDen
def sem (T : Nat → Df) : Nat → Cal
  | 0, _, _, _ => .bad
  | f + 1, k, ds, h => runBody (T k).n ((T k).b (sem T f)) (T k).ps ds h
end PI
/-! ## Pi1 -/
set_option Elab.async false
set_option linter.all false
set_option maxRecDepth 100000
set_option maxHeartbeats 1000000
set_option autoImplicit false
/-! PI, part 1: each denotation is what the model does. -/
namespace PI
open PySem L2
/-- the written part, the constants' values, the exceptions' classes -/
structure Gx where
  K : PySem.W.Frag
  cv : Nat → V
  cm : Nat → Value
/-- a list that no one writes: locked, or of the written part -/
def SqR (K : PySem.W.Frag) (H : Hp) (a : Addr) (xs : List V) : Prop :=
  (∃ u, H a = some (.frz u (.lst xs))) ∨
    ∃ (o : Obj) (its : Array Value) (n : Nat), K.lookup a = some o ∧ o.cls = .type "list" ∧ o.dict = none ∧ o.data = .seq its n ∧ its.size ≤ sizeLine ∧ Vals xs its.toList
theorem SqR.sq {K : PySem.W.Frag} {H : Hp} {a : Addr} {xs : List V} (h : SqR K H a xs) : SqL K H a xs := by
  rcases h with h | h
  · exact .inl (.inr h)
  · exact .inr h
mutual
inductive RD (G : Gx) (ρ : List Addr) (H : Hp) : V → D → Prop
  | non : RD G ρ H .non .non
  | bl (b : Bool) : RD G ρ H (.bl b) (.bl b)
  | int (i : Int) : RD G ρ H (.int i) (.int i)
  | str (x : Str) : RD G ρ H (.str x) (.str x.cps.toList)
  | tup {a : Addr} {vs : List V} {ds : List D} : SqT G.K H a vs → RDs G ρ H vs ds → RD G ρ H (.ref a) (.tup ds)
  | ref {a : Addr} {n : Nat} : ρ[n]? = some a → RD G ρ H (.ref a) (.ref n)
  | cv (n : Nat) : RD G ρ H (G.cv n) (.cv n)
  | rl {a : Addr} {vs : List V} {ds : List D} : SqR G.K H a vs → RDs G ρ H vs ds → RD G ρ H (.ref a) (.rl ds)
inductive RDs (G : Gx) (ρ : List Addr) (H : Hp) : List V → List D → Prop
  | nil : RDs G ρ H [] []
  | cons {v : V} {vs : List V} {d : D} {ds : List D} : RD G ρ H v d → RDs G ρ H vs ds → RDs G ρ H (v :: vs) (d :: ds)
end
structure Le (G : Gx) (ρ : List Addr) (H : Hp) (ρ' : List Addr) (H' : Hp) : Prop where
  pre : ∃ t, ρ' = ρ ++ t ∧ ∀ b ∈ t, H b = none
  tup : ∀ a vs, SqT G.K H a vs → SqT G.K H' a vs
  rol : ∀ a vs, SqR G.K H a vs → SqR G.K H' a vs
  /-- what is tracked beside the plain heap stays as it is -/
  keep : ∀ (b : Addr) (o : HO), H b = some o → b ∉ ρ → H' b = some o
  stay : ∀ (b : Addr) (o : HO), H b = some o → ∃ u, H' b = some u
section
variable {G : Gx} {ρ ρ' ρ'' : List Addr} {H H' H'' : Hp} {v : V} {d : D} {vs ws : List V} {ds es : List D}
theorem Le.refl : Le G ρ H ρ H := ⟨⟨[], by simp⟩, fun _ _ h => h, fun _ _ h => h, fun _ _ h _ => h, fun _ o h => ⟨o, h⟩⟩
theorem Le.trans (a : Le G ρ H ρ' H') (b : Le G ρ' H' ρ'' H'') : Le G ρ H ρ'' H'' := by
  obtain ⟨t, rfl, ht⟩ := a.pre
  obtain ⟨u, rfl, hu⟩ := b.pre
  refine ⟨⟨t ++ u, by simp, fun x hx => ?_⟩, fun x y h => b.tup x y (a.tup x y h), fun x y h => b.rol x y (a.rol x y h), fun x o h hx => ?_, fun x o h => ?_⟩
  · rcases List.mem_append.mp hx with hx | hx
    · exact ht x hx
    · cases e : H x with
      | none => rfl
      | some o =>
        obtain ⟨w, q⟩ := a.stay x o e
        rw [hu x hx] at q
        cases q
  · refine b.keep x o (a.keep x o h hx) fun hm => ?_
    rcases List.mem_append.mp hm with hm | hm
    · exact hx hm
    · rw [ht x hm] at h
      cases h
  · obtain ⟨w, q⟩ := a.stay x o h
    exact b.stay x w q
theorem Le.at (a : Le G ρ H ρ' H') {n : Nat} {x : Addr} (h : ρ[n]? = some x) : ρ'[n]? = some x := by
  obtain ⟨t, rfl, _⟩ := a.pre
  have hn := (List.getElem?_eq_some_iff.mp h).1
  rw [List.getElem?_append_left hn]
  exact h
mutual
theorem RD.mono (l : Le G ρ H ρ' H') : ∀ {v : V} {d : D}, RD G ρ H v d → RD G ρ' H' v d
  | _, _, .non => .non
  | _, _, .bl b => .bl b
  | _, _, .int i => .int i
  | _, _, .str x => .str x
  | _, _, .tup h r => .tup (l.tup _ _ h) (RDs.mono l r)
  | _, _, .ref h => .ref (l.at h)
  | _, _, .cv n => .cv n
  | _, _, .rl h r => .rl (l.rol _ _ h) (RDs.mono l r)
theorem RDs.mono (l : Le G ρ H ρ' H') : ∀ {vs : List V} {ds : List D}, RDs G ρ H vs ds → RDs G ρ' H' vs ds
  | _, _, .nil => .nil
  | _, _, .cons a b => .cons (RD.mono l a) (RDs.mono l b)
end
mutual
theorem RD.mono2 (h1 : ∀ a vs, SqT G.K H a vs → SqT G.K H' a vs) (h2 : ∀ a vs, SqR G.K H a vs → SqR G.K H' a vs) : ∀ {v : V} {d : D}, RD G ρ H v d → RD G ρ H' v d
  | _, _, .non => .non
  | _, _, .bl b => .bl b
  | _, _, .int i => .int i
  | _, _, .str x => .str x
  | _, _, .tup h r => .tup (h1 _ _ h) (RDs.mono2 h1 h2 r)
  | _, _, .ref h => .ref h
  | _, _, .cv n => .cv n
  | _, _, .rl h r => .rl (h2 _ _ h) (RDs.mono2 h1 h2 r)
theorem RDs.mono2 (h1 : ∀ a vs, SqT G.K H a vs → SqT G.K H' a vs) (h2 : ∀ a vs, SqR G.K H a vs → SqR G.K H' a vs) : ∀ {vs : List V} {ds : List D}, RDs G ρ H vs ds → RDs G ρ H' vs ds
  | _, _, .nil => .nil
  | _, _, .cons a b => .cons (RD.mono2 h1 h2 a) (RDs.mono2 h1 h2 b)
end
mutual
theorem RD.grow (t : List Addr) : ∀ {v : V} {d : D}, RD G ρ H v d → RD G (ρ ++ t) H v d
  | _, _, .non => .non
  | _, _, .bl b => .bl b
  | _, _, .int i => .int i
  | _, _, .str x => .str x
  | _, _, .tup h r => .tup h (RDs.grow t r)
  | _, _, .ref h => .ref (by rw [List.getElem?_append_left (List.getElem?_eq_some_iff.mp h).1]; exact h)
  | _, _, .cv n => .cv n
  | _, _, .rl h r => .rl h (RDs.grow t r)
theorem RDs.grow (t : List Addr) : ∀ {vs : List V} {ds : List D}, RDs G ρ H vs ds → RDs G (ρ ++ t) H vs ds
  | _, _, .nil => .nil
  | _, _, .cons a b => .cons (RD.grow t a) (RDs.grow t b)
end
theorem RDs.length : ∀ {vs : List V} {ds : List D}, RDs G ρ H vs ds → vs.length = ds.length
  | _, _, .nil => rfl
  | _, _, .cons _ r => congrArg (· + 1) r.length
theorem RDs.get : ∀ {vs : List V} {ds : List D} {i : Nat} {d : D}, RDs G ρ H vs ds → ds[i]? = some d → ∃ v, vs[i]? = some v ∧ RD G ρ H v d
  | _, _, _, _, .nil, e => by simp at e
  | _, _, 0, _, .cons a _, e => by
    simp at e
    subst e
    exact ⟨_, rfl, a⟩
  | _, _, i + 1, d, .cons _ r, e => by
    obtain ⟨v, h1, h2⟩ := RDs.get (i := i) (d := d) r (by simpa using e)
    exact ⟨v, by simpa using h1, h2⟩
theorem RDs.getV : ∀ {vs : List V} {ds : List D} {i : Nat} {v : V}, RDs G ρ H vs ds → vs[i]? = some v → ∃ d, ds[i]? = some d ∧ RD G ρ H v d
  | _, _, _, _, .nil, e => by simp at e
  | _, _, 0, _, .cons a _, e => by
    simp at e
    subst e
    exact ⟨_, rfl, a⟩
  | _, _, i + 1, d, .cons _ r, e => by
    obtain ⟨v, h1, h2⟩ := RDs.getV (i := i) (v := d) r (by simpa using e)
    exact ⟨v, by simpa using h1, h2⟩
theorem RDs.append : ∀ {vs : List V} {ds : List D}, RDs G ρ H vs ds → RDs G ρ H ws es → RDs G ρ H (vs ++ ws) (ds ++ es)
  | _, _, .nil, s => s
  | _, _, .cons a r, s => .cons a (r.append s)
theorem RDs.take : ∀ {vs : List V} {ds : List D} (n : Nat), RDs G ρ H vs ds → RDs G ρ H (vs.take n) (ds.take n)
  | _, _, 0, _ => by simpa using RDs.nil
  | _, _, _ + 1, .nil => .nil
  | _, _, n + 1, .cons a r => .cons a (r.take n)
theorem RDs.drop : ∀ {vs : List V} {ds : List D} (n : Nat), RDs G ρ H vs ds → RDs G ρ H (vs.drop n) (ds.drop n)
  | _, _, 0, r => r
  | _, _, _ + 1, .nil => .nil
  | _, _, n + 1, .cons _ r => r.drop n
theorem RDs.dropLast (r : RDs G ρ H vs ds) : RDs G ρ H vs.dropLast ds.dropLast := by
  rw [List.dropLast_eq_take, List.dropLast_eq_take, r.length]
  exact r.take _
theorem RDs.set (a : RD G ρ H v d) : ∀ {vs : List V} {ds : List D} (n : Nat), RDs G ρ H vs ds → RDs G ρ H (vs.set n v) (ds.set n d)
  | _, _, _, .nil => .nil
  | _, _, 0, .cons _ r => .cons a r
  | _, _, n + 1, .cons b r => .cons b (RDs.set a n r)
theorem RDs.eraseIdx : ∀ {vs : List V} {ds : List D} (n : Nat), RDs G ρ H vs ds → RDs G ρ H (vs.eraseIdx n) (ds.eraseIdx n)
  | _, _, _, .nil => .nil
  | _, _, 0, .cons _ r => r
  | _, _, n + 1, .cons b r => .cons b (RDs.eraseIdx n r)
theorem RDs.reverse : ∀ {vs : List V} {ds : List D}, RDs G ρ H vs ds → RDs G ρ H vs.reverse ds.reverse
  | _, _, .nil => .nil
  | _, _, .cons a r => by
    rw [List.reverse_cons, List.reverse_cons]
    exact (RDs.reverse r).append (.cons a .nil)
theorem RDs.one (a : RD G ρ H v d) : RDs G ρ H [v] [d] := .cons a .nil
end
def kyV : Ky → Key
  | .i n => .inl n
  | .s x => .inr ⟨x.toArray⟩
theorem kyV_inj {a b : Ky} (h : kyV a = kyV b) : a = b := by
  cases a <;> cases b <;> simp_all [kyV]
inductive RK {κ κ' : Type} (f : κ → κ') (G : Gx) (ρ : List Addr) (H : Hp) : List (κ' × V) → List (κ × D) → Prop
  | nil : RK f G ρ H [] []
  | cons {k : κ} {v : V} {d : D} {r : List (κ' × V)} {s : List (κ × D)} : RD G ρ H v d → RK f G ρ H r s → RK f G ρ H ((f k, v) :: r) ((k, d) :: s)
theorem RK.mono {κ κ' : Type} {f : κ → κ'} {G : Gx} {ρ ρ' : List Addr} {H H' : Hp} (l : Le G ρ H ρ' H') : ∀ {r : List (κ' × V)} {s : List (κ × D)}, RK f G ρ H r s → RK f G ρ' H' r s
  | _, _, .nil => .nil
  | _, _, .cons a r => .cons (a.mono l) (RK.mono l r)
theorem RK.mapD {κ κ' : Type} {f : κ → κ'} {G : Gx} {ρ ρ' : List Addr} {H H' : Hp} (l : ∀ {v : V} {d : D}, RD G ρ H v d → RD G ρ' H' v d) : ∀ {r : List (κ' × V)} {s : List (κ × D)}, RK f G ρ H r s → RK f G ρ' H' r s
  | _, _, .nil => .nil
  | _, _, .cons a r => .cons (l a) (RK.mapD l r)
theorem RK.length {κ κ' : Type} {f : κ → κ'} {G : Gx} {ρ : List Addr} {H : Hp} : ∀ {r : List (κ' × V)} {s : List (κ × D)}, RK f G ρ H r s → r.length = s.length
  | _, _, .nil => rfl
  | _, _, .cons _ r => congrArg (· + 1) r.length
/-- what an object is -/
def OR (G : Gx) (ρ : List Addr) (H : Hp) (a : Addr) : Ob → Prop
  | .lst ds => ∃ vs, H a = some (.lst vs) ∧ RDs G ρ H vs ds
  | .dk kvs => ∃ ks, H a = some (.dK ks) ∧ RK kyV G ρ H ks kvs
  | .dt kvs => ∃ ks, H a = some (.dT ks) ∧ RK (List.map kyV) G ρ H ks kvs
  | .ins _ _ => False
structure HR (G : Gx) (ρ : List Addr) (h : Hh) (H : Hp) : Prop where
  len : ρ.length = h.length
  nd : ρ.Nodup
  ok : ∀ (i : Nat) (a : Addr) (o : Ob), ρ[i]? = some a → h[i]? = some o → OR G ρ H a o
section
variable {G : Gx} {ρ ρ' : List Addr} {H H' : Hp} {h : Hh} {a p : Addr} {o : Ob} {ho : HO} {n : Nat}
theorem OR.there (x : OR G ρ H a o) : ∃ u, H a = some u := by
  cases o with
  | lst ds => obtain ⟨vs, e, _⟩ := x; exact ⟨_, e⟩
  | dk kvs => obtain ⟨vs, e, _⟩ := x; exact ⟨_, e⟩
  | dt kvs => obtain ⟨vs, e, _⟩ := x; exact ⟨_, e⟩
  | ins c fs => exact x.elim
theorem HR.there (x : HR G ρ h H) (m : a ∈ ρ) : ∃ u, H a = some u := by
  obtain ⟨i, hi, rfl⟩ := List.getElem_of_mem m
  have hi' : i < h.length := by rw [← x.len]; exact hi
  exact (x.ok i _ _ (List.getElem?_eq_getElem hi) (List.getElem?_eq_getElem hi')).there
theorem HR.notin (x : HR G ρ h H) (hp : H p = none) : p ∉ ρ := fun m => by
  obtain ⟨u, e⟩ := x.there m
  rw [hp] at e
  cases e
theorem OR.keep (x : OR G ρ H a o) (l : Le G ρ H ρ' H') (k : ∀ u, H a = some u → H' a = some u) : OR G ρ' H' a o := by
  cases o with
  | lst ds => obtain ⟨vs, e, r⟩ := x; exact ⟨vs, k _ e, r.mono l⟩
  | dk kvs => obtain ⟨vs, e, r⟩ := x; exact ⟨vs, k _ e, r.mono l⟩
  | dt kvs => obtain ⟨vs, e, r⟩ := x; exact ⟨vs, k _ e, r.mono l⟩
  | ins c fs => exact x.elim
theorem sqt_new {K : PySem.W.Frag} {vs : List V} (hp : H p = none) (h : SqT K H a vs) : SqT K (upd H p ho) a vs := by
  rcases h with (h | ⟨u, h⟩) | h
  · exact .inl (.inl (by rw [upd_ne (ne_of_none h hp)]; exact h))
  · exact .inl (.inr ⟨u, by rw [upd_ne (ne_of_none h hp)]; exact h⟩)
  · exact .inr h
theorem sqr_new {K : PySem.W.Frag} {vs : List V} (hp : H p = none) (h : SqR K H a vs) : SqR K (upd H p ho) a vs := by
  rcases h with ⟨u, h⟩ | h
  · exact .inl ⟨u, by rw [upd_ne (ne_of_none h hp)]; exact h⟩
  · exact .inr h
/-- no tuple, not locked -/
def openO : HO → Bool
  | .tup _ => false
  | .frz _ _ => false
  | _ => true
theorem sqt_set {K : PySem.W.Frag} {vs : List V} {u : HO} (hp : H p = some u) (hu : openO u = true) (h : SqT K H a vs) : SqT K (upd H p ho) a vs := by
  have ne : ∀ {o : HO}, H a = some o → openO o = false → a ≠ p := fun {o} e n z => by
    rw [z, hp] at e
    cases e
    rw [hu] at n
    cases n
  rcases h with (h | ⟨v, h⟩) | h
  · exact .inl (.inl (by rw [upd_ne (ne h rfl)]; exact h))
  · exact .inl (.inr ⟨v, by rw [upd_ne (ne h rfl)]; exact h⟩)
  · exact .inr h
theorem sqr_set {K : PySem.W.Frag} {vs : List V} {u : HO} (hp : H p = some u) (hu : openO u = true) (h : SqR K H a vs) : SqR K (upd H p ho) a vs := by
  rcases h with ⟨v, h⟩ | h
  · refine .inl ⟨v, ?_⟩
    rw [upd_ne fun z => ?_]
    · exact h
    · rw [z, hp] at h
      cases h
      cases hu
  · exact .inr h
theorem stay_upd : ∀ (b : Addr) (o : HO), H b = some o → ∃ u, upd H p ho b = some u := fun b o e => by
  by_cases q : b = p
  · exact ⟨ho, by rw [q]; exact upd_same⟩
  · exact ⟨o, by rw [upd_ne q]; exact e⟩
theorem Le.new (hp : H p = none) : Le G ρ H ρ (upd H p ho) := ⟨⟨[], by simp⟩, fun _ _ h => sqt_new hp h, fun _ _ h => sqr_new hp h, fun b o e _ => by rw [upd_ne (ne_of_none e hp)]; exact e, stay_upd⟩
theorem Le.new1 (hp : H p = none) : Le G ρ H (ρ ++ [p]) (upd H p ho) := ⟨⟨[p], rfl, fun b hb => by rw [List.mem_singleton.mp hb]; exact hp⟩, fun _ _ h => sqt_new hp h, fun _ _ h => sqr_new hp h, fun b o e _ => by rw [upd_ne (ne_of_none e hp)]; exact e, stay_upd⟩
/-- an object of the plain heap is changed -/
theorem Le.set {u : HO} (hm : p ∈ ρ) (hp : H p = some u) (hu : openO u = true) : Le G ρ H ρ (upd H p ho) := ⟨⟨[], by simp⟩, fun _ _ h => sqt_set hp hu h, fun _ _ h => sqr_set hp hu h, fun b o e hb => by
  have nb : b ≠ p := fun z => hb (by rw [z]; exact hm)
  rw [upd_ne nb]
  exact e, stay_upd⟩
/-- a new thing beside: a tuple, a list that is forgotten -/
theorem HR.beside (x : HR G ρ h H) (hp : H p = none) : HR G ρ h (upd H p ho) :=
  ⟨x.len, x.nd, fun i a o e1 e2 => (x.ok i a o e1 e2).keep (Le.new hp) fun u e => by rw [upd_ne (ne_of_none e hp)]; exact e⟩
/-- a thing beside is changed -/
theorem HR.beside2 {u : HO} (x : HR G ρ h H) (hm : p ∉ ρ) (hp : H p = some u) (hu : openO u = true) : HR G ρ h (upd H p ho) := by
  refine ⟨x.len, x.nd, fun i a o e1 e2 => ?_⟩
  have na : a ≠ p := fun z => hm (by rw [← z]; exact List.mem_of_getElem? e1)
  have q := x.ok i a o e1 e2
  have mono : ∀ {v : V} {d : D}, RD G ρ H v d → RD G ρ (upd H p ho) v d := fun r => RD.mono2 (fun _ _ h => sqt_set hp hu h) (fun _ _ h => sqr_set hp hu h) r
  have monos : ∀ {v : List V} {d : List D}, RDs G ρ H v d → RDs G ρ (upd H p ho) v d := fun r => RDs.mono2 (fun _ _ h => sqt_set hp hu h) (fun _ _ h => sqr_set hp hu h) r
  cases o with
  | lst ds => obtain ⟨vs, e, r⟩ := q; exact ⟨vs, by rw [upd_ne na]; exact e, monos r⟩
  | dk kvs => obtain ⟨vs, e, r⟩ := q; exact ⟨vs, by rw [upd_ne na]; exact e, r.mapD mono⟩
  | dt kvs => obtain ⟨vs, e, r⟩ := q; exact ⟨vs, by rw [upd_ne na]; exact e, r.mapD mono⟩
  | ins c fs => exact q.elim
/-- a new object -/
theorem HR.new (x : HR G ρ h H) (hp : H p = none) (r : OR G (ρ ++ [p]) (upd H p ho) p o) : HR G (ρ ++ [p]) (h ++ [o]) (upd H p ho) := by
  have split : ∀ {i : Nat} {a : Addr} {u : Ob}, (ρ ++ [p])[i]? = some a → (h ++ [o])[i]? = some u → (i < h.length ∧ ρ[i]? = some a ∧ h[i]? = some u) ∨ (i = h.length ∧ a = p ∧ u = o) := fun {i a u} e1 e2 => by
    by_cases hi : i < h.length
    · rw [List.getElem?_append_left (by rw [x.len]; exact hi)] at e1
      rw [List.getElem?_append_left hi] at e2
      exact .inl ⟨hi, e1, e2⟩
    · rw [List.getElem?_append_right (by rw [x.len]; omega)] at e1
      rw [List.getElem?_append_right (by omega)] at e2
      have h0 : i - h.length = 0 := by
        have q := (List.getElem?_eq_some_iff.mp e2).1
        simp at q
        omega
      rw [x.len, h0] at e1
      rw [h0] at e2
      exact .inr ⟨by omega, by simpa using e1.symm, by simpa using e2.symm⟩
  refine ⟨by simp [x.len], ?_, fun i a u e1 e2 => ?_⟩
  · rw [List.nodup_append]
    refine ⟨x.nd, by simp, fun b hb c hc => ?_⟩
    rw [List.mem_singleton.mp hc]
    exact fun z => x.notin hp (z ▸ hb)
  · rcases split e1 e2 with ⟨hi, f1, f2⟩ | ⟨hi, rfl, rfl⟩
    · exact (x.ok i a u f1 f2).keep (Le.new1 hp) fun z e => by rw [upd_ne (ne_of_none e hp)]; exact e
    · exact r
/-- an object changed -/
theorem HR.set {u : HO} {o' : Ob} (x : HR G ρ h H) (e1 : ρ[n]? = some a) (e2 : h[n]? = some o) (hp : H a = some u) (hu : openO u = true) (r : OR G ρ (upd H a ho) a o') : HR G ρ (h.set n o') (upd H a ho) := by
  have hn : n < h.length := (List.getElem?_eq_some_iff.mp e2).1
  refine ⟨by simp [x.len], x.nd, fun i b w f1 f2 => ?_⟩
  by_cases hi : n = i
  · subst hi
    rw [List.getElem?_set_self hn] at f2
    rw [f1] at e1
    cases e1
    cases f2
    exact r
  · rw [List.getElem?_set_ne hi] at f2
    have hb : b ≠ a := fun z => by
      subst z
      have l1 := (List.getElem?_eq_some_iff.mp e1).1
      have l2 := (List.getElem?_eq_some_iff.mp f1).1
      have q1 := (List.getElem?_eq_some_iff.mp e1).2
      have q2 := (List.getElem?_eq_some_iff.mp f1).2
      exact hi ((List.getElem_inj x.nd).mp (q1.trans q2.symm))
    exact (x.ok i b w f1 f2).keep (Le.set (List.mem_of_getElem? e1) hp hu) fun z e => by rw [upd_ne hb]; exact e
end

/-! ### what is wanted behind a denotation -/
def Post (G : Gx) (ρ : List Addr) (H : Hp) (Q : VK) (W : XK) : Res D → Prop
  | .bad => False
  | .ok d h => ∀ ρ' v H', Le G ρ H ρ' H' → HR G ρ' h H' → RD G ρ' H' v d → Q v H'
  | .exc c fs h => ∀ ρ' dd H', Le G ρ H ρ' H' → HR G ρ' h H' → XR G ρ' H' dd fs → W (G.cm c) dd H'
where XR (G : Gx) (ρ : List Addr) (H : Hp) (dd : Option Addr) (fs : List (List Nat × D)) : Prop :=
  fs = [] ∨ ∃ a ks, dd = some a ∧ H a = some (.xd ks) ∧ RK (fun x : List Nat => (⟨x.toArray⟩ : Str)) G ρ H ks fs
abbrev XR := @Post.XR
section
variable {G : Gx} {ρ ρ' : List Addr} {H H' : Hp} {Q : VK} {W : XK}
theorem Post.le {r : Res D} (l : Le G ρ H ρ' H') (p : Post G ρ H Q W r) : Post G ρ' H' Q W r := by
  cases r with
  | bad => exact p
  | ok d h => exact fun ρ2 v H2 l2 => p ρ2 v H2 (l.trans l2)
  | exc c fs h => exact fun ρ2 v H2 l2 => p ρ2 v H2 (l.trans l2)
end
/-- the names' values -/
structure ER (G : Gx) (ρ : List Addr) (H : Hp) (σ : L2.St) (e : En) : Prop where
  len : σ.length = e.length
  at_ : ∀ (i : Nat) (d : D), e[i]? = some (some d) → ∃ v, σ[i]? = some (some v) ∧ RD G ρ H v d
section
variable {G : Gx} {ρ ρ' : List Addr} {H H' : Hp} {σ : L2.St} {e : En}
theorem ER.mono (l : Le G ρ H ρ' H') (x : ER G ρ H σ e) : ER G ρ' H' σ e := ⟨x.len, fun i d q => by
  obtain ⟨v, h1, h2⟩ := x.at_ i d q
  exact ⟨v, h1, h2.mono l⟩⟩
theorem ER.set {v : V} {d : D} {i : Nat} (x : ER G ρ H σ e) (r : RD G ρ H v d) : ER G ρ H (σ.set i (some v)) (e.set i (some d)) := ⟨by simp [x.len], fun j w q => by
  by_cases hj : i = j
  · subst hj
    have hi : i < e.length := by
      have := (List.getElem?_eq_some_iff.mp q).1
      simpa using this
    rw [List.getElem?_set_self hi] at q
    cases q
    exact ⟨v, List.getElem?_set_self (by rw [x.len]; exact hi), r⟩
  · rw [List.getElem?_set_ne hj] at q
    obtain ⟨u, h1, h2⟩ := x.at_ j w q
    exact ⟨u, by rw [List.getElem?_set_ne hj]; exact h1, h2⟩⟩
theorem ER.unset {i : Nat} (x : ER G ρ H σ e) : ER G ρ H (σ.set i none) (e.set i none) := ⟨by simp [x.len], fun j w q => by
  by_cases hj : i = j
  · subst hj
    have hi : i < e.length := by
      have := (List.getElem?_eq_some_iff.mp q).1
      simpa using this
    rw [List.getElem?_set_self hi] at q
    cases q
  · rw [List.getElem?_set_ne hj] at q
    obtain ⟨u, h1, h2⟩ := x.at_ j w q
    exact ⟨u, by rw [List.getElem?_set_ne hj]; exact h1, h2⟩⟩
end
/-- an expression's reading by its denotation; W: what is wanted of an exception -/
def tI (G : Gx) (W : WX) (a : Den) : TE := fun σ H Q => ∃ ρ h e, HR G ρ h H ∧ ER G ρ H σ e ∧ Post G ρ H Q (fun c d H' => W c d σ H') (a e h)
def PostB (G : Gx) (ρ : List Addr) (H : Hp) (Q : Bool → Hp → Prop) (W : XK) : Res Bool → Prop
  | .bad => False
  | .ok b h => ∀ ρ' H', Le G ρ H ρ' H' → HR G ρ' h H' → Q b H'
  | .exc c fs h => ∀ ρ' dd H', Le G ρ H ρ' H' → HR G ρ' h H' → XR G ρ' H' dd fs → W (G.cm c) dd H'
def PostA (G : Gx) (ρ : List Addr) (H : Hp) (Q : List V → Hp → Prop) (W : XK) : Res (List D) → Prop
  | .bad => False
  | .ok ds h => ∀ ρ' vs H', Le G ρ H ρ' H' → HR G ρ' h H' → RDs G ρ' H' vs ds → Q vs H'
  | .exc c fs h => ∀ ρ' dd H', Le G ρ H ρ' H' → HR G ρ' h H' → XR G ρ' H' dd fs → W (G.cm c) dd H'
def tB' (G : Gx) (W : WX) (a : TDen) : TT := fun σ H Q => ∃ ρ h e, HR G ρ h H ∧ ER G ρ H σ e ∧ PostB G ρ H Q (fun c d H' => W c d σ H') (a e h)
def tA (G : Gx) (W : WX) (a : ADen) : TA := fun σ H Q => ∃ ρ h e, HR G ρ h H ∧ ER G ρ H σ e ∧ PostA G ρ H Q (fun c d H' => W c d σ H') (a e h)
section
variable {G : Gx} {ρ ρ' : List Addr} {H H' : Hp} {W : XK}
theorem PostB.le {Q : Bool → Hp → Prop} {r : Res Bool} (l : Le G ρ H ρ' H') (p : PostB G ρ H Q W r) : PostB G ρ' H' Q W r := by
  cases r with
  | bad => exact p
  | ok d h => exact fun ρ2 H2 l2 => p ρ2 H2 (l.trans l2)
  | exc c fs h => exact fun ρ2 v H2 l2 => p ρ2 v H2 (l.trans l2)
theorem PostA.le {Q : List V → Hp → Prop} {r : Res (List D)} (l : Le G ρ H ρ' H') (p : PostA G ρ H Q W r) : PostA G ρ' H' Q W r := by
  cases r with
  | bad => exact p
  | ok d h => exact fun ρ2 v H2 l2 => p ρ2 v H2 (l.trans l2)
  | exc c fs h => exact fun ρ2 v H2 l2 => p ρ2 v H2 (l.trans l2)
end
/-- another reading of the same expression -/
theorem pe_imp {X : Cx} {e : Expr} {t t' : TE} (p : PE X e t) (h : ∀ σ H Q, t' σ H Q → t σ H Q) : PE X e t' := ⟨fun pins s σ H Q I q => p.run pins s σ H Q I (h σ H Q q)⟩
theorem pt_imp {X : Cx} {e : Expr} {t t' : TT} (p : PT X e t) (h : ∀ σ H Q, t' σ H Q → t σ H Q) : PT X e t' := ⟨fun pins s σ H Q I q => p.run pins s σ H Q I (h σ H Q q)⟩
theorem pw_imp {X : Cx} {e : Expr} {t t' : TT} (p : PW X e t) (h : ∀ σ H Q, t' σ H Q → t σ H Q) : PW X e t' := ⟨fun wh pins s σ H Q I q => p.run wh pins s σ H Q I (h σ H Q q)⟩
theorem pa_imp {X : Cx} {e : List Expr} {t t' : TA} (p : PA X e t) (h : ∀ σ H Q, t' σ H Q → t σ H Q) : PA X e t' := ⟨fun pos pins s σ H Q I q => p.run pos pins s σ H Q I (h σ H Q q)⟩

/-! ### names, constants -/
section
variable {X : Cx} {G : Gx} {W : WX} {pos : Pos}
theorem ie_var (i : Nat) {x : Str} (hN : X.N[i]? = some x := by rfl) (hv : Vis X.env.scope x := by first | exact Or.inl rfl | exact Or.inr (Or.inl rfl) | exact Or.inr (Or.inr rfl)) (hd : (x == ("__debug__" : Str)) = false := by decide)
    (hcd : (x == ("__classdict__" : Str)) = false := by decide) : PE X (.Name x pos) (tI G W (dVar i)) := by
  refine pe_imp (pe_var hN hv hd hcd) fun σ H Q ⟨ρ, h, e, hr, er, p⟩ => ?_
  unfold dVar at p
  split at p
  · rename_i d q
    obtain ⟨v, h1, h2⟩ := er.at_ i d q
    exact ⟨v, h1, p ρ v H Le.refl hr h2⟩
  · exact p.elim
theorem ie_c {e : Expr} {v : V} {d : D} (p : PE X e (tC v)) (r : ∀ ρ H, RD G ρ H v d) : PE X e (tI G W (dC d)) :=
  pe_imp p fun σ H Q ⟨ρ, h, e, hr, er, p⟩ => p ρ v H Le.refl hr (r ρ H)
theorem ie_int {i : Int} {j : Nat} : PE X (.Constant (.int i) j pos) (tI G W (dC (.int i))) := ie_c pe_int fun _ _ => .int i
theorem ie_bl {b : Bool} {j : Nat} : PE X (.Constant (.bool b) j pos) (tI G W (dC (.bl b))) := ie_c pe_bl fun _ _ => .bl b
theorem ie_non {j : Nat} : PE X (.Constant .none j pos) (tI G W (dC .non)) := ie_c pe_non fun _ _ => .non
theorem ie_str {x : Str} {s : List Nat} {j : Nat} (h : x.cps.toList = s := by decide +kernel) : PE X (.Constant (.str x) j pos) (tI G W (dC (.str s))) := ie_c pe_str fun _ _ => by
  subst h
  exact .str x
/-- a constant of the module -/
theorem ie_glob {x : Str} {v : V} {u : Value} {d : D} (hm : X.mg x = some u) (r : RelV v u) (q : ∀ ρ H, RD G ρ H v d) (hg : Gl X x := by rfl) (hd : (x == ("__debug__" : Str)) = false := by decide) : PE X (.Name x pos) (tI G W (dC d)) :=
  ie_c (pe_glob hg hm r hd) q
end

/-! ### two expressions, one operation -/
/-- an operation on values does what f says -/
def OpS (X : Cx) (G : Gx) (op : Value → Value → Sem Value) (f : D → D → Hh → Res D) : Prop := ∃ r : R2, OpR X op r ∧
  ∀ ρ h H x y dx dy (Q : VK) (W : XK), HR G ρ h H → RD G ρ H x dx → RD G ρ H y dy → Post G ρ H Q W (f dx dy h) → r x y H Q
/-- the two parts run, then the operation -/
theorem tI_bin {G : Gx} {W : WX} {a b : Den} {f : D → D → Hh → Res D} {r : R2}
    (hr : ∀ ρ h H x y dx dy (Q : VK) (W : XK), HR G ρ h H → RD G ρ H x dx → RD G ρ H y dy → Post G ρ H Q W (f dx dy h) → r x y H Q) (σ : L2.St) (H : Hp) (Q : VK) (p : tI G W (dBin f a b) σ H Q) : tOp r (tI G W a) (tI G W b) σ H Q := by
  obtain ⟨ρ, h, e, hh, er, p⟩ := p
  refine ⟨ρ, h, e, hh, er, ?_⟩
  unfold dBin at p
  cases ea : a e h with
  | bad => rw [ea] at p; exact p
  | exc c fs h1 => rw [ea] at p; exact p
  | ok x h1 =>
    rw [ea] at p
    intro ρ1 v H1 l1 hh1 r1
    have p1 := Post.le l1 p
    refine ⟨ρ1, h1, e, hh1, er.mono l1, ?_⟩
    simp only [bind_ok] at p1
    cases eb : b e h1 with
    | bad => rw [eb] at p1; exact p1
    | exc c fs h2 => rw [eb] at p1; exact p1
    | ok y h2 =>
      rw [eb] at p1
      intro ρ2 w H2 l2 hh2 r2
      exact hr ρ2 h2 H2 v w x y Q _ hh2 (r1.mono l2) r2 (Post.le l2 p1)
section
variable {X : Cx} {G : Gx} {W : WX} {pos : Pos} {a b c : Expr} {da db dc : Den} {f g : D → D → Hh → Res D}
theorem ie_op {op : Operator} (o : OpS X G (binaryOp op) f) (ha : PE X a (tI G W da)) (hb : PE X b (tI G W db)) : PE X (.BinOp a op b pos) (tI G W (dBin f da db)) := by
  obtain ⟨r, h1, h2⟩ := o
  exact pe_imp (pe_op h1 ha hb) (tI_bin h2)
theorem ie_cmp {op : CmpOp} (o : OpS X G (compareOp op) f) (ha : PE X a (tI G W da)) (hb : PE X b (tI G W db)) (hm : behindInMarks op b = false := by first | exact nomark _ | rfl | with_unfolding_all rfl) : PE X (.Compare a [op] [b] pos) (tI G W (dBin f da db)) := by
  obtain ⟨r, h1, h2⟩ := o
  exact pe_imp (pe_cmpR h1 ha hb hm) (tI_bin h2)
end
end PI
/-! ## Pi2 -/
set_option Elab.async false
set_option linter.all false
set_option maxRecDepth 100000
set_option maxHeartbeats 1000000
set_option autoImplicit false
/-! PI, part 2: operators, comparisons, truth, built-ins by name. -/
namespace PI
open PySem L2
section
variable {G : Gx} {ρ : List Addr} {H : Hp} {h : Hh} {Q : VK} {W : XK}
theorem rd_str {x : Str} {s : List Nat} (e : x.cps.toList = s) : RD G ρ H (.str x) (.str s) := by
  subst e
  exact .str x
theorem rd_str_inv {v : V} {s : List Nat} (r : RD G ρ H v (.str s)) : ∃ x : Str, v = .str x ∧ x.cps.toList = s := by
  generalize e : D.str s = d at r
  cases r <;> first
    | (cases e; done)
    | exact ⟨_, rfl, (D.str.inj e).symm⟩
theorem len_str (x : Str) : x.length = x.cps.toList.length := by simp [Str.length]
theorem SLe : SL = sizeLine := sizeLine_eq.symm
/-- an answer that leaves the heap -/
theorem post_here {d : D} {v : V} (p : Post G ρ H Q W (.ok d h)) (hr : HR G ρ h H) (r : RD G ρ H v d) : Q v H := p ρ v H Le.refl hr r
/-- an answer that is a new tuple -/
theorem post_tup {ds : List D} {vs : List V} {a : Addr} (p : Post G ρ H Q W (.ok (.tup ds) h)) (hr : HR G ρ h H) (r : RDs G ρ H vs ds) (ha : H a = none) : Q (.ref a) (upd H a (.tup vs)) :=
  p ρ _ _ (Le.new ha) (hr.beside ha) (.tup (SqT.of upd_same) (r.mono (Le.new ha)))
/-- an answer that is a new list -/
theorem post_lst {ds : List D} {vs : List V} {a : Addr} (p : Post G ρ H Q W (.ok (.ref h.length) (h ++ [.lst ds]))) (hr : HR G ρ h H) (r : RDs G ρ H vs ds) (ha : H a = none) : Q (.ref a) (upd H a (.lst vs)) :=
  p (ρ ++ [a]) _ _ (Le.new1 ha) (hr.new ha ⟨vs, upd_same, r.mono (Le.new1 ha)⟩) (.ref (by rw [← hr.len]; simp))
/-- an answer behind a change of the list n -/
theorem post_set {ds es : List D} {vs ws : List V} {a : Addr} {n : Nat} {d : D} {v : V} (p : Post G ρ H Q W (.ok d (h.set n (.lst es)))) (hr : HR G ρ h H) (e1 : ρ[n]? = some a) (e2 : h[n]? = some (.lst ds)) (ha : H a = some (.lst vs)) (r : RDs G ρ H ws es) (rd : RD G ρ H v d) : Q v (upd H a (.lst ws)) :=
  p ρ _ _ (Le.set (List.mem_of_getElem? e1) ha rfl) (hr.set e1 e2 ha rfl ⟨ws, upd_same, r.mono (Le.set (List.mem_of_getElem? e1) ha rfl)⟩) (rd.mono (Le.set (List.mem_of_getElem? e1) ha rfl))
theorem lst_of {n : Nat} {a : Addr} {ds : List D} (hr : HR G ρ h H) (e1 : ρ[n]? = some a) (e : h[n]? = some (.lst ds)) : ∃ vs, H a = some (.lst vs) ∧ RDs G ρ H vs ds := hr.ok n a _ e1 e
theorem sql_of {n : Nat} {a : Addr} {ds : List D} (hr : HR G ρ h H) (e1 : ρ[n]? = some a) (e : lstAt h n = some ds) : ∃ vs, H a = some (.lst vs) ∧ RDs G ρ H vs ds := by
  unfold lstAt at e
  split at e
  · rename_i xs q
    cases e
    exact hr.ok n a _ e1 q
  · cases e
/-- a list's items -/
theorem list_ok {v : V} {d : D} {ds : List D} (hr : HR G ρ h H) (r : RD G ρ H v d) (e : listOf h d = some ds) : ∃ a vs, v = .ref a ∧ SqL G.K H a vs ∧ RDs G ρ H vs ds := by
  cases r with
  | ref q =>
    obtain ⟨vs, h1, h2⟩ := sql_of hr q e
    exact ⟨_, vs, rfl, SqL.of h1, h2⟩
  | rl hs rs =>
    cases e
    exact ⟨_, _, rfl, hs.sq, rs⟩
  | _ => cases e
end
theorem mulOk_ok {i j : Int} (h : mulOk i j) : IntMulOk i j := by
  have b : ∀ x : Int, Builtin.Int.intBits x ≤ x.natAbs.log2 + 1 := fun x => by
    unfold Builtin.Int.intBits
    split <;> omega
  have h1 := b i
  have h2 := b j
  have h3 : i.natAbs.log2 + j.natAbs.log2 < 100000000 := h
  have e : bitsLine = 134217728 := by decide
  unfold IntMulOk
  intro z
  rw [Bool.and_eq_true] at z
  have z2 := z.2
  unfold Builtin.Int.intTooBig at z2
  have z3 := of_decide_eq_true z2
  rw [e] at z3
  omega
section
variable {X : Cx} {G : Gx}
theorem op_mulP : OpR X (binaryOp .Mult) (rI mulOk fun i j => .int (i * j)) := opI fun _ _ _ _ _ _ _ hc q => PyProof.Rows.mul_int q (mulOk_ok hc)
theorem op_divP : OpR X (binaryOp .FloorDiv) (rI (fun _ j => divOk j) fun i j => .int (i.fdiv j)) := opI fun i j _ _ _ _ _ hc q =>
  PyProof.Rows.floordiv_int hc.1 q (.inl (PyProof.noPylong_of_log2 (Nat.lt_of_lt_of_le hc.2 (by decide))))
theorem os_sub : OpS X G (binaryOp .Sub) oSub := ⟨_, op_sub, fun ρ h H x y dx dy Q W hr rx ry p => by
  cases rx <;> cases ry <;> first
    | exact False.elim p
    | exact ⟨_, _, rfl, rfl, post_here p hr (.int _)⟩⟩
theorem os_div : OpS X G (binaryOp .FloorDiv) oDiv := ⟨_, op_divP, fun ρ h H x y dx dy Q W hr rx ry p => by
  cases rx <;> cases ry <;> first
    | exact False.elim p
    | (rename_i i j
       simp only [oDiv] at p
       by_cases c : divOk j
       · rw [if_pos c] at p
         exact ⟨_, _, rfl, rfl, c, post_here p hr (.int _)⟩
       · rw [if_neg c] at p
         exact p.elim)⟩
theorem os_mod : OpS X G (binaryOp .Mod) oMod := ⟨_, op_modN, fun ρ h H x y dx dy Q W hr rx ry p => by
  cases rx <;> cases ry <;> first
    | exact False.elim p
    | (rename_i i j
       simp only [oMod] at p
       by_cases c : j ≠ 0
       · rw [if_pos c] at p
         exact ⟨_, _, rfl, rfl, c, post_here p hr (.int _)⟩
       · rw [if_neg c] at p
         exact p.elim)⟩
theorem os_pow : OpS X G (binaryOp .Pow) oPow := ⟨_, op_pow, fun ρ h H x y dx dy Q W hr rx ry p => by
  cases rx <;> cases ry <;> first
    | exact False.elim p
    | (rename_i i j
       simp only [oPow] at p
       by_cases c : 0 ≤ j ∧ j ≤ 1000000 ∧ i.natAbs < 2 ^ 64
       · rw [if_pos c] at p
         exact ⟨_, _, rfl, rfl, c, post_here p hr (.int _)⟩
       · rw [if_neg c] at p
         exact p.elim)⟩
/-- +: ints, texts, tuples, lists -/
theorem os_add (hK : G.K = X.K) : OpS X G (binaryOp .Add) oAdd := ⟨_, op_add.or (op_add_str.or (op_catA.or op_cat)), fun ρ h H x y dx dy Q W hr rx ry p => by
  cases rx <;> cases ry <;> first
    | exact False.elim p
    | exact .inl ⟨_, _, rfl, rfl, post_here p hr (.int _)⟩
    | skip
  · rename_i a b
    refine .inr (.inl ⟨a, b, rfl, rfl, ?_⟩)
    simp only [oAdd] at p
    split at p
    · rename_i c
      rw [SLe] at c
      refine ⟨by rw [len_str, len_str]; exact c, post_here p hr (rd_str (TL.tl_append a b))⟩
    · exact p.elim
  · rename_i a vs ds ha ra b ws es hb rb
    refine .inr (.inr (.inl ⟨a, b, vs, ws, rfl, rfl, hK ▸ ha, hK ▸ hb, ?_⟩))
    simp only [oAdd] at p
    split at p
    · rename_i c
      rw [SLe, ← ra.length, ← rb.length] at c
      refine ⟨c, fun e => ?_, fun _ e => ?_, fun _ _ t ht => post_tup p hr (ra.append rb) ht⟩
      · subst e
        cases ra
        exact post_here p hr (.tup hb rb)
      · subst e
        cases rb
        rw [List.append_nil] at p
        exact post_here p hr (.tup ha ra)
    · exact p.elim
  · rename_i a m ea b n eb
    refine .inr (.inr (.inr ?_))
    simp only [oAdd] at p
    split at p
    · rename_i xs ys q1 q2
      obtain ⟨vs, h1, r1⟩ := lst_of hr ea q1
      obtain ⟨ws, h2, r2⟩ := lst_of hr eb q2
      split at p
      · rename_i c
        rw [SLe, ← r1.length, ← r2.length] at c
        exact ⟨a, b, vs, ws, rfl, rfl, h1, h2, c, fun t ht => post_lst p hr (r1.append r2) ht⟩
      · exact p.elim
    · exact p.elim⟩
theorem rds_rep {ρ : List Addr} {H : Hp} {vs : List V} {ds : List D} (r : RDs G ρ H vs ds) : ∀ n : Nat, RDs G ρ H (List.replicate n vs).flatten (List.replicate n ds).flatten
  | 0 => .nil
  | n + 1 => by
    rw [List.replicate_succ, List.replicate_succ, List.flatten_cons, List.flatten_cons]
    exact r.append (rds_rep r n)
/-- *: ints; a list and an int -/
theorem os_mul (hK : G.K = X.K) : OpS X G (binaryOp .Mult) oMul := ⟨_, op_mulP.or (op_rep.or op_repT), fun ρ h H x y dx dy Q W hr rx ry p => by
  cases rx <;> cases ry <;> first
    | exact False.elim p
    | skip
  · rename_i i j
    simp only [oMul] at p
    by_cases c : mulOk i j
    · rw [if_pos c] at p
      exact .inl ⟨_, _, rfl, rfl, c, post_here p hr (.int _)⟩
    · rw [if_neg c] at p
      exact p.elim
  · rename_i a vs xs hs r k
    simp only [oMul] at p
    split at p
    · rename_i c
      have hl := r.length
      refine .inr (.inr ⟨a, k, vs, rfl, rfl, hK ▸ hs, ?_, c.2.1, c.2.2.1, by omega, fun t ht => post_tup p hr (rds_rep r _) ht⟩)
      intro z
      subst z
      cases r
      exact c.1 rfl
    · exact p.elim
  · rename_i a n ea k
    simp only [oMul] at p
    split at p
    · rename_i xs q1
      obtain ⟨vs, h1, r1⟩ := lst_of hr ea q1
      split at p
      · rename_i c
        rw [SLe, ← r1.length] at c
        exact .inr (.inl ⟨a, k, vs, rfl, rfl, h1, c.1, c.2.1, c.2.2, fun t ht => post_lst p hr (rds_rep r1 _) ht⟩)
      · exact p.elim
    · exact p.elim⟩
end
/-! ### a one-place operation -/
def UnS (X : Cx) (G : Gx) (op : Value → Sem Value) (f : D → Hh → Res D) : Prop := ∃ r : V → Hp → VK → Prop, UnR X op r ∧
  ∀ ρ h H x dx (Q : VK) (W : XK), HR G ρ h H → RD G ρ H x dx → Post G ρ H Q W (f dx h) → r x H Q
theorem tI_un {G : Gx} {W : WX} {a : Den} {f : D → Hh → Res D} {r : V → Hp → VK → Prop}
    (hr : ∀ ρ h H x dx (Q : VK) (W : XK), HR G ρ h H → RD G ρ H x dx → Post G ρ H Q W (f dx h) → r x H Q) (σ : L2.St) (H : Hp) (Q : VK) (p : tI G W (dUn f a) σ H Q) : tI G W a σ H fun x H1 => r x H1 Q := by
  obtain ⟨ρ, h, e, hh, er, p⟩ := p
  refine ⟨ρ, h, e, hh, er, ?_⟩
  unfold dUn at p
  cases ea : a e h with
  | bad => rw [ea] at p; exact p
  | exc c fs h1 => rw [ea] at p; exact p
  | ok x h1 =>
    rw [ea] at p
    intro ρ1 v H1 l1 hh1 r1
    exact hr ρ1 h1 H1 v x Q _ hh1 r1 (Post.le l1 p)
section
variable {X : Cx} {G : Gx} {W : WX} {pos : Pos} {a b : Expr} {da db : Den}
theorem ie_neg (ha : PE X a (tI G W da)) : PE X (.UnaryOp .USub a pos) (tI G W (dUn oNeg da)) :=
  pe_imp (pe_un un_neg ha) (tI_un fun ρ h H x dx Q W hr rx p => by
    cases rx <;> first
      | exact False.elim p
      | exact ⟨_, rfl, post_here p hr (.int _)⟩)
end

/-! ### ==: flat data as the library's data -/
mutual
def toP : D → PyData
  | .non => .none
  | .bl b => .bool b
  | .int i => .int i
  | .str s => .str ⟨s.toArray⟩
  | .tup xs => .tuple (toPL xs)
  | .ref _ => .none
  | .cv _ => .none
  | .rl _ => .none
def toPL : List D → List PyData
  | [] => []
  | x :: xs => toP x :: toPL xs
end
mutual
theorem toP_lay : ∀ d : D, (toP d).canLay0 = true ∨ d.flat = false
  | .non => .inl rfl
  | .bl _ => .inl rfl
  | .int _ => .inl rfl
  | .str s => by
    cases e : s.all (· < 0x110000) with
    | false => exact .inr e
    | true =>
      refine .inl ?_
      show PyData.strOk ⟨s.toArray⟩ = true
      unfold PyData.strOk
      simpa using e
  | .tup xs => toPL_lay xs
  | .ref _ => .inr rfl
  | .cv _ => .inr rfl
  | .rl _ => .inr rfl
theorem toPL_lay : ∀ ds : List D, PyData.canLayAll0 (toPL ds) = true ∨ D.flatL ds = false
  | [] => .inl rfl
  | x :: xs => by
    have h1 := toP_lay x
    have h2 := toPL_lay xs
    simp only [toPL, PyData.canLayAll0, D.flatL, Bool.and_eq_true, Bool.and_eq_false_iff]
    rcases h1 with h1 | h1
    · rcases h2 with h2 | h2
      · exact .inl ⟨h1, h2⟩
      · exact .inr (.inr h2)
    · exact .inr (.inl h1)
end
mutual
theorem toP_depth : ∀ d : D, (toP d).depth = d.deep
  | .non => rfl
  | .bl _ => rfl
  | .int _ => rfl
  | .str _ => rfl
  | .tup xs => by
    show PyData.depthAll (toPL xs) + 1 = D.deepL xs + 1
    rw [toPL_depth xs]
  | .ref _ => rfl
  | .cv _ => rfl
  | .rl _ => rfl
theorem toPL_depth : ∀ ds : List D, PyData.depthAll (toPL ds) = D.deepL ds
  | [] => rfl
  | x :: xs => by
    show max (PyData.depth (toP x)) (PyData.depthAll (toPL xs)) = max (D.deep x) (D.deepL xs)
    rw [toP_depth x, toPL_depth xs]
end
mutual
theorem toP_eqv : ∀ a b : D, a.flat = true → b.flat = true → PyData.eqv (toP a) (toP b) = D.eqv a b
  | .non, b, _, _ => by cases b <;> simp_all [toP, PyData.eqv, D.eqv, D.flat]
  | .bl _, b, _, _ => by cases b <;> simp_all [toP, PyData.eqv, D.eqv, D.flat]
  | .int _, b, _, _ => by cases b <;> simp_all [toP, PyData.eqv, D.eqv, D.flat]
  | .str s, b, _, _ => by
    cases b with
    | str t =>
      simp only [toP, PyData.eqv, D.eqv]
      rw [Bool.eq_iff_iff]
      simp
    | _ => simp_all [toP, PyData.eqv, D.eqv, D.flat]
  | .tup xs, b, ha, hb => by
    cases b with
    | tup ys =>
      simp only [toP, PyData.eqv, D.eqv]
      exact toPL_eqv xs ys (by simpa [D.flat] using ha) (by simpa [D.flat] using hb)
    | _ => simp_all [toP, PyData.eqv, D.eqv, D.flat]
  | .ref _, _, ha, _ => by simp [D.flat] at ha
  | .cv _, _, ha, _ => by simp [D.flat] at ha
  | .rl _, _, ha, _ => by simp [D.flat] at ha
theorem toPL_eqv : ∀ a b : List D, D.flatL a = true → D.flatL b = true → PyData.eqvAll (toPL a) (toPL b) = D.eqvL a b
  | [], [], _, _ => by simp [toPL, PyData.eqvAll, D.eqvL]
  | [], _ :: _, _, _ => by simp [toPL, PyData.eqvAll, D.eqvL]
  | _ :: _, [], _, _ => by simp [toPL, PyData.eqvAll, D.eqvL]
  | x :: xs, y :: ys, ha, hb => by
    simp only [D.flatL, Bool.and_eq_true] at ha hb
    simp only [toPL, PyData.eqvAll, D.eqvL]
    rw [toP_eqv x y ha.1 hb.1, toPL_eqv xs ys ha.2 hb.2]
end
section
variable {G : Gx} {ρ : List Addr} {H : Hp} {h : Hh}
mutual
theorem rd_dp : ∀ {v : V} {d : D}, RD G ρ H v d → d.flat = true → Dp G.K H v (toP d)
  | _, _, .non, _ => .non
  | _, _, .bl b, _ => .bl b
  | _, _, .int i, _ => .int i
  | _, _, .str x, _ => .str x
  | _, _, .tup hs r, hf => .tup hs (rds_dp r (by simpa [D.flat] using hf))
  | _, _, .ref _, hf => by simp [D.flat] at hf
  | _, _, .cv _, hf => by simp [D.flat] at hf
  | _, _, .rl _ _, hf => by simp [D.flat] at hf
theorem rds_dp : ∀ {vs : List V} {ds : List D}, RDs G ρ H vs ds → D.flatL ds = true → DpAll G.K H vs (toPL ds)
  | _, _, .nil, _ => .nil
  | _, _, .cons a r, hf => by
    simp only [D.flatL, Bool.and_eq_true] at hf
    exact .cons (rd_dp a hf.1) (rds_dp r hf.2)
end
theorem shaped_fit {d : D} (f : d.fit = true) : SeqAt.shaped (toP d) = true := by
  unfold D.fit at f
  rw [Bool.and_eq_true, decide_eq_true_eq] at f
  unfold SeqAt.shaped
  rw [Bool.and_eq_true, decide_eq_true_eq, toP_depth]
  refine ⟨?_, by omega⟩
  rcases toP_lay d with z | z
  · exact z
  · rw [z] at f
    cases f.1
theorem shaped_fitL {ds : List D} (f : D.fitL ds = true) : SeqAt.shaped (.list (toPL ds)) = true := by
  unfold D.fitL at f
  rw [Bool.and_eq_true, decide_eq_true_eq] at f
  unfold SeqAt.shaped
  rw [Bool.and_eq_true, decide_eq_true_eq]
  refine ⟨?_, ?_⟩
  · show PyData.canLayAll0 (toPL ds) = true
    rcases toPL_lay ds with z | z
    · exact z
    · rw [z] at f
      cases f.1
  · show PyData.depthAll (toPL ds) + 1 ≤ 64
    rw [toPL_depth]
    omega
theorem fit_flat {d : D} (f : d.fit = true) : d.flat = true := by
  unfold D.fit at f
  rw [Bool.and_eq_true] at f
  exact f.1
theorem fit_flatL {ds : List D} (f : D.fitL ds = true) : D.flatL ds = true := by
  unfold D.fitL at f
  rw [Bool.and_eq_true] at f
  exact f.1
/-- the scalars -/
theorem scal_eq {x y : V} {a b : D} (rx : RD G ρ H x a) (ry : RD G ρ H y b) (s : D.scal2 a b = true) : scal x y = true ∧ decide (x = y) = D.eqv a b := by
  cases rx <;> cases ry <;> first
    | (simp [D.scal2, D.scal] at s; done)
    | (refine ⟨rfl, ?_⟩; rw [dec_int]; simp only [D.eqv]; done)
    | (refine ⟨rfl, ?_⟩; rw [dec_bl]; simp only [D.eqv]; done)
    | (rename_i x y; refine ⟨rfl, ?_⟩; rw [dec_str]; simp only [D.eqv]; rw [Bool.eq_iff_iff]; simp only [beq_iff_eq]; exact ⟨fun e => by rw [e], fun e => TL.ext_tl e⟩)
    | (refine ⟨rfl, ?_⟩; simp [D.eqv]; done)
/-- == of parts -/
theorem eqE_ok {x y : V} {a b : D} {c : Bool} (hr : HR G ρ h H) (rx : RD G ρ H x a) (ry : RD G ρ H y b) (e : eqE h a b = some c) :
    ∃ d f, Dp G.K H x d ∧ Dp G.K H y f ∧ (d.canLay0 = true ∧ d.depth ≤ 62) ∧ (f.canLay0 = true ∧ f.depth ≤ 62) ∧ PyData.eqv d f = c := by
  have fitS : ∀ {d : D}, d.fit = true → (toP d).canLay0 = true ∧ (toP d).depth ≤ 62 := fun {d} f => by
    unfold D.fit at f
    rw [Bool.and_eq_true, decide_eq_true_eq] at f
    refine ⟨?_, by rw [toP_depth]; omega⟩
    rcases toP_lay d with z | z
    · exact z
    · rw [z] at f
      cases f.1
  have fitSL : ∀ {ds : List D}, D.fitL ds = true → (PyData.list (toPL ds)).canLay0 = true ∧ (PyData.list (toPL ds)).depth ≤ 62 := fun {ds} f => by
    unfold D.fitL at f
    rw [Bool.and_eq_true, decide_eq_true_eq] at f
    refine ⟨?_, ?_⟩
    · show PyData.canLayAll0 (toPL ds) = true
      rcases toPL_lay ds with z | z
      · exact z
      · rw [z] at f
        cases f.1
    · show PyData.depthAll (toPL ds) + 1 ≤ 62
      rw [toPL_depth]
      omega
  unfold eqE at e
  split at e
  · rename_i xs ys e1 e2
    split at e
    · rename_i f
      rw [Bool.and_eq_true] at f
      obtain ⟨_, vs, rfl, h1, r1⟩ := list_ok hr rx e1
      obtain ⟨_, ws, rfl, h2, r2⟩ := list_ok hr ry e2
      refine ⟨_, _, .lst h1 (rds_dp r1 (fit_flatL f.1)), .lst h2 (rds_dp r2 (fit_flatL f.2)), fitSL f.1, fitSL f.2, ?_⟩
      show PyData.eqvAll (toPL xs) (toPL ys) = c
      rw [toPL_eqv _ _ (fit_flatL f.1) (fit_flatL f.2)]
      exact Option.some.inj e
    · cases e
  · split at e
    · rename_i f
      rw [Bool.and_eq_true] at f
      refine ⟨_, _, rd_dp rx (fit_flat f.1), rd_dp ry (fit_flat f.2), fitS f.1, fitS f.2, ?_⟩
      rw [toP_eqv _ _ (fit_flat f.1) (fit_flat f.2)]
      exact Option.some.inj e
    · cases e
  · cases e
theorem eqEL_ok : ∀ {as bs : List D} {xs ys : List V} {c : Bool}, HR G ρ h H → RDs G ρ H xs as → RDs G ρ H ys bs → eqEL h as bs = some c →
    ∃ ds fs, DpAll G.K H xs ds ∧ DpAll G.K H ys fs ∧ (PyData.canLayAll0 ds = true ∧ PyData.depthAll ds ≤ 62) ∧ (PyData.canLayAll0 fs = true ∧ PyData.depthAll fs ≤ 62) ∧ PyData.eqvAll ds fs = c
  | [], [], _, _, c, hr, .nil, .nil, e => ⟨[], [], .nil, .nil, ⟨rfl, Nat.zero_le _⟩, ⟨rfl, Nat.zero_le _⟩, by simpa [eqEL, PyData.eqvAll] using e⟩
  | [], _ :: _, _, _, c, hr, _, _, e => by simp [eqEL] at e
  | _ :: _, [], _, _, c, hr, _, _, e => by simp [eqEL] at e
  | a :: as, b :: bs, _, _, c, hr, .cons ra ras, .cons rb rbs, e => by
    rw [eqEL] at e
    cases e1 : eqE h a b with
    | none => rw [e1] at e; cases e
    | some c1 =>
      cases e2 : eqEL h as bs with
      | none => rw [e1, e2] at e; cases e
      | some c2 =>
        rw [e1, e2] at e
        cases e
        obtain ⟨d, f, g1, g2, g3, g4, g5⟩ := eqE_ok hr ra rb e1
        obtain ⟨ds, fs, k1, k2, k3, k4, k5⟩ := eqEL_ok hr ras rbs e2
        refine ⟨d :: ds, f :: fs, .cons g1 k1, .cons g2 k2, ⟨?_, ?_⟩, ⟨?_, ?_⟩, ?_⟩
        · show (d.canLay0 && PyData.canLayAll0 ds) = true
          rw [g3.1, k3.1]
          rfl
        · show max d.depth (PyData.depthAll ds) ≤ 62
          have := g3.2
          have := k3.2
          omega
        · show (f.canLay0 && PyData.canLayAll0 fs) = true
          rw [g4.1, k4.1]
          rfl
        · show max f.depth (PyData.depthAll fs) ≤ 62
          have := g4.2
          have := k4.2
          omega
        · rw [PyData.eqvAll, g5, k5]
/-- data that == may run through -/
def shp (d : PyData) : Bool := d.canLay0 && decide (d.depth ≤ 190)
theorem shp_of {d : PyData} (h : SeqAt.shaped d = true) : shp d = true := by
  unfold SeqAt.shaped at h
  unfold shp
  rw [Bool.and_eq_true, decide_eq_true_eq] at h ⊢
  exact ⟨h.1, by omega⟩
theorem shp_fit2 {d : D} (f : d.fit2 = true) : shp (toP d) = true := by
  unfold D.fit2 at f
  rw [Bool.and_eq_true, decide_eq_true_eq] at f
  unfold shp
  rw [Bool.and_eq_true, decide_eq_true_eq, toP_depth]
  refine ⟨?_, by omega⟩
  rcases toP_lay d with z | z
  · exact z
  · rw [z] at f
    cases f.1
/-- == of two that eqR answers -/
theorem eqR_ok {x y : V} {a b : D} {c : Bool} (hr : HR G ρ h H) (rx : RD G ρ H x a) (ry : RD G ρ H y b) (e : eqR h a b = some c) :
    (scal x y = true ∧ decide (x = y) = c) ∨ ∃ d f, Dp G.K H x d ∧ Dp G.K H y f ∧ shp d = true ∧ shp f = true ∧ PyData.eqv d f = c := by
  unfold eqR at e
  split at e
  · rename_i s
    obtain ⟨h1, h2⟩ := scal_eq rx ry s
    rw [h2]
    exact .inl ⟨h1, Option.some.inj e⟩
  · refine .inr ?_
    split at e
    · rename_i xs ys e1 e2
      split at e
      · rename_i f
        rw [Bool.and_eq_true] at f
        obtain ⟨_, vs, rfl, h1, r1⟩ := list_ok hr rx e1
        obtain ⟨_, ws, rfl, h2, r2⟩ := list_ok hr ry e2
        refine ⟨_, _, .lst h1 (rds_dp r1 (fit_flatL f.1)), .lst h2 (rds_dp r2 (fit_flatL f.2)), shp_of (shaped_fitL f.1), shp_of (shaped_fitL f.2), ?_⟩
        show PyData.eqvAll (toPL xs) (toPL ys) = c
        rw [toPL_eqv _ _ (fit_flatL f.1) (fit_flatL f.2)]
        exact Option.some.inj e
      · cases e
    · rename_i xs e1 _
      split at e
      · rename_i f
        rw [Bool.and_eq_true] at f
        obtain ⟨_, vs, rfl, h1, r1⟩ := list_ok hr rx e1
        refine ⟨_, _, .lst h1 (rds_dp r1 (fit_flatL f.1)), rd_dp ry (fit_flat f.2), shp_of (shaped_fitL f.1), shp_of (shaped_fit f.2), ?_⟩
        have z := Option.some.inj e
        subst z
        cases b <;> first
          | rfl
          | (simp [toP, PyData.eqv]; done)
          | (simp [D.fit, D.flat] at f; done)
      · cases e
    · rename_i ys _ e2
      split at e
      · rename_i f
        rw [Bool.and_eq_true] at f
        obtain ⟨_, ws, rfl, h2, r2⟩ := list_ok hr ry e2
        refine ⟨_, _, rd_dp rx (fit_flat f.1), .lst h2 (rds_dp r2 (fit_flatL f.2)), shp_of (shaped_fit f.1), shp_of (shaped_fitL f.2), ?_⟩
        have z := Option.some.inj e
        subst z
        cases a <;> first
          | rfl
          | (simp [toP, PyData.eqv]; done)
          | (simp [D.fit, D.flat] at f; done)
      · cases e
    · split at e
      · rename_i f
        rw [Bool.and_eq_true] at f
        refine ⟨_, _, rd_dp rx (fit_flat f.1), rd_dp ry (fit_flat f.2), shp_of (shaped_fit f.1), shp_of (shaped_fit f.2), ?_⟩
        rw [toP_eqv _ _ (fit_flat f.1) (fit_flat f.2)]
        exact Option.some.inj e
      · split at e
        · rename_i xs ys _ _ _
          cases rx with
          | tup hx rx =>
            cases ry with
            | tup hy ry =>
              split at e
              · rename_i b0 e0
                have e1 := Option.some.inj e
                subst e1
                obtain ⟨ds, fs, g1, g2, g3, g4, g5⟩ := eqEL_ok hr rx ry e0
                have sh : ∀ {ds : List PyData}, (PyData.canLayAll0 ds = true ∧ PyData.depthAll ds ≤ 62) → shp (.tuple ds) = true := fun {ds} g => by
                  unfold shp
                  rw [Bool.and_eq_true, decide_eq_true_eq]
                  exact ⟨g.1, show PyData.depthAll ds + 1 ≤ 190 by have := g.2; omega⟩
                exact ⟨_, _, .tup hx g1, .tup hy g2, sh g3, sh g4, g5⟩
              · split at e
                · rename_i f
                  rw [Bool.and_eq_true] at f
                  have f1 := (Bool.and_eq_true_iff.mp f.1).1
                  have f2 := (Bool.and_eq_true_iff.mp f.2).1
                  refine ⟨_, _, rd_dp (.tup hx rx) f1, rd_dp (.tup hy ry) f2, shp_fit2 f.1, shp_fit2 f.2, ?_⟩
                  rw [toP_eqv _ _ f1 f2]
                  exact Option.some.inj e
                · cases e
        · cases e
end
section
variable {X : Cx} {G : Gx}
theorem room_shp {A : Around} {da db : PyData} (h : shp da = true) (hu : A.units + 190 < cLine) : A.units + min da.depth db.depth < cLine := by
  unfold shp at h
  rw [Bool.and_eq_true, decide_eq_true_eq] at h
  have h2 : min da.depth db.depth ≤ da.depth := Nat.min_le_left _ _
  omega
theorem shp_lay {d : PyData} (h : shp d = true) : d.canLay0 = true := (Bool.and_eq_true_iff.mp h).1
def rEqQ (K : PySem.W.Frag) : R2 := fun x y H Q => ∃ d e, Dp K H x d ∧ Dp K H y e ∧ shp d = true ∧ shp e = true ∧ Q (.bl (PyData.eqv d e)) H
def rNeQ (K : PySem.W.Frag) : R2 := fun x y H Q => ∃ d e, Dp K H x d ∧ Dp K H y e ∧ shp d = true ∧ shp e = true ∧ Q (.bl (!PyData.eqv d e)) H
theorem op_eqQ (hu : X.A.units + 190 < cLine) : OpR X (compareOp .Eq) (rEqQ X.K) := by
  intro pins s σ H x y v u Q I rx ry h
  obtain ⟨d, e, hd, he, sd, se, q⟩ := h
  obtain ⟨as, r1⟩ := Dp.reads I d x v hd rx
  obtain ⟨bs, r2⟩ := Dp.reads I e y u he ry
  exact SeqAt.compareEq_reads r1 r2 (shp_lay sd) (shp_lay se) (room_shp sd hu) ⟨.bl _, H, I, rfl, q⟩
theorem op_neQ (hu : X.A.units + 190 < cLine) : OpR X (compareOp .NotEq) (rNeQ X.K) := by
  intro pins s σ H x y v u Q I rx ry h
  obtain ⟨d, e, hd, he, sd, se, q⟩ := h
  obtain ⟨as, r1⟩ := Dp.reads I d x v hd rx
  obtain ⟨bs, r2⟩ := Dp.reads I e y u he ry
  exact SeqAt.compareNe_reads r1 r2 (shp_lay sd) (shp_lay se) (room_shp sd hu) ⟨.bl _, H, I, rfl, q⟩
theorem os_eq (hK : G.K = X.K) (hu : X.A.units + 190 < cLine) : OpS X G (compareOp .Eq) cEq := ⟨_, op_eq.or (op_eqQ hu), fun ρ h H x y dx dy Q W hr rx ry p => by
  unfold cEq at p
  split at p
  · rename_i b e
    rcases eqR_ok hr rx ry e with ⟨h1, h2⟩ | ⟨d, f, h1, h2, h3, h4, h5⟩
    · refine .inl ⟨h1, ?_⟩
      rw [h2]
      exact post_here p hr (.bl b)
    · refine .inr ⟨d, f, hK ▸ h1, hK ▸ h2, h3, h4, ?_⟩
      rw [h5]
      exact post_here p hr (.bl b)
  · exact p.elim⟩
theorem os_ne (hK : G.K = X.K) (hu : X.A.units + 190 < cLine) : OpS X G (compareOp .NotEq) cNe := ⟨_, op_ne.or (op_neQ hu), fun ρ h H x y dx dy Q W hr rx ry p => by
  unfold cNe at p
  split at p
  · rename_i b e
    rcases eqR_ok hr rx ry e with ⟨h1, h2⟩ | ⟨d, f, h1, h2, h3, h4, h5⟩
    · refine .inl ⟨h1, ?_⟩
      rw [h2]
      exact post_here p hr (.bl _)
    · refine .inr ⟨d, f, hK ▸ h1, hK ▸ h2, h3, h4, ?_⟩
      rw [h5]
      exact post_here p hr (.bl _)
  · exact p.elim⟩
theorem os_lt : OpS X G (compareOp .Lt) cLt := ⟨_, op_lt.or op_lt_str, fun ρ h H x y dx dy Q W hr rx ry p => by
  cases rx <;> cases ry <;> first
    | exact False.elim p
    | exact .inl ⟨_, _, rfl, rfl, post_here p hr (.bl _)⟩
    | exact .inr ⟨_, _, rfl, rfl, post_here p hr (.bl _)⟩⟩
theorem os_le : OpS X G (compareOp .LtE) cLe := ⟨_, op_le.or op_le_str, fun ρ h H x y dx dy Q W hr rx ry p => by
  cases rx <;> cases ry <;> first
    | exact False.elim p
    | exact .inl ⟨_, _, rfl, rfl, post_here p hr (.bl _)⟩
    | exact .inr ⟨_, _, rfl, rfl, post_here p hr (.bl _)⟩⟩
theorem os_gt : OpS X G (compareOp .Gt) cGt := ⟨_, op_gt.or op_gt_str, fun ρ h H x y dx dy Q W hr rx ry p => by
  cases rx <;> cases ry <;> first
    | exact False.elim p
    | exact .inl ⟨_, _, rfl, rfl, post_here p hr (.bl _)⟩
    | exact .inr ⟨_, _, rfl, rfl, post_here p hr (.bl _)⟩⟩
theorem os_ge : OpS X G (compareOp .GtE) cGe := ⟨_, op_ge.or op_ge_str, fun ρ h H x y dx dy Q W hr rx ry p => by
  cases rx <;> cases ry <;> first
    | exact False.elim p
    | exact .inl ⟨_, _, rfl, rfl, post_here p hr (.bl _)⟩
    | exact .inr ⟨_, _, rfl, rfl, post_here p hr (.bl _)⟩⟩
/-! ### in -/
theorem scal_flat {ρ : List Addr} {H : Hp} {x : V} {d : D} (r : RD G ρ H x d) (s : d.scal = true) : flatV x = true := by
  cases r <;> first
    | rfl
    | (simp [D.scal] at s; done)
theorem scal_flats {ρ : List Addr} {H : Hp} : ∀ {xs : List V} {ds : List D}, RDs G ρ H xs ds → ds.all D.scal = true → xs.all flatV = true
  | _, _, .nil, _ => rfl
  | _, _, .cons a r, s => by
    simp only [List.all_cons, Bool.and_eq_true] at s ⊢
    exact ⟨scal_flat a s.1, scal_flats r s.2⟩
theorem eqV_eqv {ρ : List Addr} {H : Hp} {x y : V} {a b : D} (rx : RD G ρ H x a) (ry : RD G ρ H y b) (s : a.scal = true) (t : b.scal = true) : eqV x y = D.eqv a b := by
  cases rx <;> cases ry <;> first
    | (simp [D.scal] at s; done)
    | (simp [D.scal] at t; done)
    | (simp [eqV, D.eqv]; done)
    | skip
  rename_i x y
  simp only [eqV, D.eqv]
  rw [Bool.eq_iff_iff]
  simp only [beq_iff_eq]
  exact ⟨fun e => by rw [e], fun e => TL.ext_tl e⟩
theorem inV_any {ρ : List Addr} {H : Hp} {x : V} {a : D} (rx : RD G ρ H x a) (s : a.scal = true) : ∀ {xs : List V} {ds : List D}, RDs G ρ H xs ds → ds.all D.scal = true → inV x xs = anyEq a ds
  | _, _, .nil, _ => rfl
  | _, _, .cons b r, t => by
    simp only [List.all_cons, Bool.and_eq_true] at t
    have ih := inV_any rx s r t.2
    unfold inV at ih ⊢
    rw [List.any_cons, ih, eqV_eqv b rx t.1 s]
    rfl
theorem inItems_ok {ρ : List Addr} {H : Hp} {x : V} {a : D} {xs : List V} {ds : List D} {c : Bool} (rx : RD G ρ H x a) (r : RDs G ρ H xs ds) (e : inItems a ds = some c) : flatV x = true ∧ xs.all flatV = true ∧ inV x xs = c := by
  unfold inItems at e
  split at e
  · rename_i f
    rw [Bool.and_eq_true] at f
    exact ⟨scal_flat rx f.1, scal_flats r f.2, by rw [inV_any rx f.1 r f.2]; exact Option.some.inj e⟩
  · cases e
theorem toPL_any {x : D} (hx : x.flat = true) : ∀ {xs : List D}, D.flatL xs = true → ((toPL xs).any fun z => PyData.eqv z (toP x)) = anyEq x xs
  | [], _ => rfl
  | y :: ys, h => by
    rw [D.flatL, Bool.and_eq_true] at h
    rw [toPL, List.any_cons, toP_eqv _ _ h.1 hx, toPL_any hx h.2]
    rfl
theorem inR_ok {ρ : List Addr} {H : Hp} {h : Hh} {x y : V} {a b : D} {c : Bool} (hr : HR G ρ h H) (rx : RD G ρ H x a) (ry : RD G ρ H y b) (e : inR h a b = some c) :
    ((∃ p xs, y = .ref p ∧ (SqL G.K H p xs ∨ SqT G.K H p xs) ∧ flatV x = true ∧ xs.all flatV = true ∧ inV x xs = c) ∨ ∃ (k : Nat) (z : Str), x = .str ⟨#[k]⟩ ∧ y = .str z ∧ decide (k ∈ z.cps.toList) = c) ∨
      ∃ d ds, Dp G.K H x d ∧ Dp G.K H y (.list ds) ∧ SeqAt.shaped d = true ∧ SeqAt.shaped (.list ds) = true ∧ (ds.any fun z => PyData.eqv z d) = c := by
  unfold inR at e
  split at e
  · cases ry with
    | tup hs r =>
      obtain ⟨h1, h2, h3⟩ := inItems_ok rx r e
      exact .inl (.inl ⟨_, _, rfl, .inr hs, h1, h2, h3⟩)
  · obtain ⟨z, rfl, rfl⟩ := rd_str_inv ry
    split at e
    · rename_i k
      obtain ⟨w, rfl, hw⟩ := rd_str_inv rx
      refine .inl (.inr ⟨k, z, ?_, rfl, Option.some.inj e⟩)
      congr 1
      exact TL.ext_tl (show w.cps.toList = [k] from hw)
    · cases e
  · split at e
    · rename_i ys q
      obtain ⟨_, vs, rfl, g1, g2⟩ := list_ok hr ry q
      split at e
      · rename_i b' e'
        cases e
        obtain ⟨h1, h2, h3⟩ := inItems_ok rx g2 e'
        exact .inl (.inl ⟨_, _, rfl, .inl g1, h1, h2, h3⟩)
      · unfold inDeep at e
        split at e
        · rename_i f
          rw [Bool.and_eq_true] at f
          refine .inr ⟨_, _, rd_dp rx (fit_flat f.1), .lst g1 (rds_dp g2 (fit_flatL f.2)), shaped_fit f.1, shaped_fitL f.2, ?_⟩
          rw [toPL_any (fit_flat f.1) (fit_flatL f.2)]
          exact Option.some.inj e
        · cases e
    · cases e
theorem os_in (hK : G.K = X.K) (hu : X.A.units + 65 < cLine) : OpS X G (compareOp .In) cIn := ⟨_, op_in_seq.or (op_in_sign.or (op_inD hu)), fun ρ h H x y dx dy Q W hr rx ry p => by
  unfold cIn at p
  split at p
  · rename_i b e
    rcases inR_ok hr rx ry e with (⟨a, xs, h1, h2, h3, h4, h5⟩ | ⟨k, z, h1, h2, h3⟩) | ⟨d, ds, h1, h2, h3, h4, h5⟩
    · refine .inl ⟨a, xs, h1, hK ▸ h2, h3, h4, ?_⟩
      rw [h5]
      exact post_here p hr (.bl b)
    · refine .inr (.inl ⟨k, z, h1, h2, ?_⟩)
      rw [h3]
      exact post_here p hr (.bl b)
    · refine .inr (.inr ⟨d, ds, hK ▸ h1, hK ▸ h2, h3, h4, ?_⟩)
      rw [h5]
      exact post_here p hr (.bl b)
  · exact p.elim⟩
theorem os_nin (hK : G.K = X.K) (hu : X.A.units + 65 < cLine) : OpS X G (compareOp .NotIn) cNin := ⟨_, op_notIn_seq.or (op_notIn_sign.or (op_notInD hu)), fun ρ h H x y dx dy Q W hr rx ry p => by
  unfold cNin at p
  split at p
  · rename_i b e
    rcases inR_ok hr rx ry e with (⟨a, xs, h1, h2, h3, h4, h5⟩ | ⟨k, z, h1, h2, h3⟩) | ⟨d, ds, h1, h2, h3, h4, h5⟩
    · refine .inl ⟨a, xs, h1, hK ▸ h2, h3, h4, ?_⟩
      rw [h5]
      exact post_here p hr (.bl _)
    · refine .inr (.inl ⟨k, z, h1, h2, ?_⟩)
      rw [h3]
      exact post_here p hr (.bl _)
    · refine .inr (.inr ⟨d, ds, hK ▸ h1, hK ▸ h2, h3, h4, ?_⟩)
      rw [h5]
      exact post_here p hr (.bl _)
  · exact p.elim⟩
end
theorem hu190 {A : Around} {n : Nat} (hr : Room n A) : A.units + 190 < cLine := by
  have := hr.un
  omega
theorem hu65 {A : Around} {n : Nat} (hr : Room n A) : A.units + 65 < cLine := by
  have := hr.un
  omega
end PI
/-! ## Pi3 -/
set_option Elab.async false
set_option linter.all false
set_option maxRecDepth 100000
set_option maxHeartbeats 1000000
set_option autoImplicit false
/-! PI, part 3: tests, displays, places, cuts, built-ins by name, methods. -/
namespace PI
open PySem L2
/-- what is wanted behind any denotation; F may ask the plain heap -/
def PostG {α : Type} (G : Gx) (ρ : List Addr) (H : Hp) (F : List Addr → Hh → Hp → α → Prop) (W : XK) : Res α → Prop
  | .bad => False
  | .ok a h => ∀ ρ' H', Le G ρ H ρ' H' → HR G ρ' h H' → F ρ' h H' a
  | .exc c fs h => ∀ ρ' dd H', Le G ρ H ρ' H' → HR G ρ' h H' → XR G ρ' H' dd fs → W (G.cm c) dd H'
section
variable {α : Type} {G : Gx} {ρ : List Addr} {H : Hp} {W : XK} {r : Res α} {h : Hh} {σ : L2.St} {e : En}
theorem Post.bind {Q : VK} {k : α → Hh → Res D} (p : Post G ρ H Q W (r.bind k)) : PostG G ρ H (fun ρ' h' H' a => Post G ρ' H' Q W (k a h')) W r := by
  cases r with
  | bad => exact p
  | ok a h => exact fun ρ' H' l _ => Post.le l p
  | exc c fs h => exact p
theorem PostB.bind {Q : Bool → Hp → Prop} {k : α → Hh → Res Bool} (p : PostB G ρ H Q W (r.bind k)) : PostG G ρ H (fun ρ' h' H' a => PostB G ρ' H' Q W (k a h')) W r := by
  cases r with
  | bad => exact p
  | ok a h => exact fun ρ' H' l _ => PostB.le l p
  | exc c fs h => exact p
theorem PostA.bind {Q : List V → Hp → Prop} {k : α → Hh → Res (List D)} (p : PostA G ρ H Q W (r.bind k)) : PostG G ρ H (fun ρ' h' H' a => PostA G ρ' H' Q W (k a h')) W r := by
  cases r with
  | bad => exact p
  | ok a h => exact fun ρ' H' l _ => PostA.le l p
  | exc c fs h => exact p
end
section
variable {G : Gx} {ρ : List Addr} {H : Hp} {h : Hh} {σ : L2.St} {e : En} {W : WX}
/-- into an expression's reading -/
theorem tI.intro {a : Den} {Q : VK} {F : List Addr → Hh → Hp → D → Prop} (hr : HR G ρ h H) (er : ER G ρ H σ e) (p : PostG G ρ H F (fun c d H' => W c d σ H') (a e h))
    (f : ∀ ρ' h' H' d v, Le G ρ H ρ' H' → HR G ρ' h' H' → RD G ρ' H' v d → F ρ' h' H' d → Q v H') : tI G W a σ H Q := by
  refine ⟨ρ, h, e, hr, er, ?_⟩
  cases q : a e h with
  | bad => rw [q] at p; exact p
  | ok d h' => rw [q] at p; exact fun ρ' v H' l hr' r => f ρ' h' H' d v l hr' r (p ρ' H' l hr')
  | exc c fs h' => rw [q] at p; exact p
theorem tB'.intro {a : TDen} {Q : Bool → Hp → Prop} {F : List Addr → Hh → Hp → Bool → Prop} (hr : HR G ρ h H) (er : ER G ρ H σ e) (p : PostG G ρ H F (fun c d H' => W c d σ H') (a e h))
    (f : ∀ ρ' h' H' b, Le G ρ H ρ' H' → HR G ρ' h' H' → F ρ' h' H' b → Q b H') : tB' G W a σ H Q := by
  refine ⟨ρ, h, e, hr, er, ?_⟩
  cases q : a e h with
  | bad => rw [q] at p; exact p
  | ok d h' => rw [q] at p; exact fun ρ' H' l hr' => f ρ' h' H' d l hr' (p ρ' H' l hr')
  | exc c fs h' => rw [q] at p; exact p
theorem tA.intro {a : ADen} {Q : List V → Hp → Prop} {F : List Addr → Hh → Hp → List D → Prop} (hr : HR G ρ h H) (er : ER G ρ H σ e) (p : PostG G ρ H F (fun c d H' => W c d σ H') (a e h))
    (f : ∀ ρ' h' H' d v, Le G ρ H ρ' H' → HR G ρ' h' H' → RDs G ρ' H' v d → F ρ' h' H' d → Q v H') : tA G W a σ H Q := by
  refine ⟨ρ, h, e, hr, er, ?_⟩
  cases q : a e h with
  | bad => rw [q] at p; exact p
  | ok d h' => rw [q] at p; exact fun ρ' v H' l hr' r => f ρ' h' H' d v l hr' r (p ρ' H' l hr')
  | exc c fs h' => rw [q] at p; exact p
end

/-! ### argument lists, displays -/
section
variable {X : Cx} {G : Gx} {W : WX} {pos : Pos} {e : Expr} {es : List Expr} {da : Den} {dr : ADen}
theorem ia_nil : PA X [] (tA G W aNil) := pa_imp pa_nil fun σ H Q ⟨ρ, h, e, hr, er, p⟩ => p ρ [] H Le.refl hr .nil
theorem ia_cons (ha : PE X e (tI G W da)) (hr : PA X es (tA G W dr)) (hs : starEach (e :: es) X.env = (false, eval e X.env) :: starEach es X.env := by rfl) : PA X (e :: es) (tA G W (aCons da dr)) := by
  refine pa_imp (pa_cons ha hr hs) fun σ H Q ⟨ρ, h, e, hr, er, p⟩ => ?_
  refine tI.intro hr er (PostA.bind p) fun ρ1 h1 H1 x v l1 hr1 r1 p1 => ?_
  refine tA.intro hr1 (er.mono l1) (PostA.bind p1) fun ρ2 h2 H2 xs vs l2 hr2 r2 p2 => ?_
  exact p2 ρ2 _ H2 Le.refl hr2 (.cons (r1.mono l2) r2)
theorem ie_tup {k : Nat} (h : PA X es (tA G W dr)) : PE X (.Tuple es k pos) (tI G W (dTup dr)) := by
  refine pe_imp (pe_tup h) fun σ H Q ⟨ρ, h, e, hr, er, p⟩ => ?_
  refine tA.intro hr er (Post.bind p) fun ρ1 h1 H1 xs vs l1 hr1 r1 p1 => ?_
  split at p1
  · rename_i c
    rw [SLe, ← r1.length] at c
    exact ⟨c, fun a ha => post_tup p1 hr1 r1 ha⟩
  · exact p1.elim
theorem ie_lst (h : PA X es (tA G W dr)) : PE X (.List es pos) (tI G W (dLst dr)) := by
  refine pe_imp (pe_lst h) fun σ H Q ⟨ρ, h, e, hr, er, p⟩ => ?_
  refine tA.intro hr er (Post.bind p) fun ρ1 h1 H1 xs vs l1 hr1 r1 p1 => ?_
  split at p1
  · rename_i c
    rw [SLe, ← r1.length] at c
    exact ⟨c, fun a ha => post_lst p1 hr1 r1 ha⟩
  · exact p1.elim
end

/-! ### truth, tests -/
theorem isEmpty_rds {G : Gx} {ρ : List Addr} {H : Hp} {vs : List V} {ds : List D} (r : RDs G ρ H vs ds) : vs.isEmpty = ds.isEmpty := by cases r <;> rfl
theorem isEmpty_rk {κ κ' : Type} {f : κ → κ'} {G : Gx} {ρ : List Addr} {H : Hp} {vs : List (κ' × V)} {ds : List (κ × D)} (r : RK f G ρ H vs ds) : vs.isEmpty = ds.isEmpty := by cases r <;> rfl
theorem truth_ok {G : Gx} {ρ : List Addr} {H : Hp} {h : Hh} {x : V} {d : D} {k : Bool} (hr : HR G ρ h H) (r : RD G ρ H x d) (e : truth h d = some k) : TruV G.K x H k := by
  cases r with
  | non => exact (Option.some.inj e).symm
  | bl b => exact (Option.some.inj e).symm
  | int i => exact (Option.some.inj e).symm
  | str x =>
    simp only [truth] at e
    split at e
    · rename_i c
      refine ⟨by rw [len_str, ← SLe]; exact c, ?_⟩
      rw [← Option.some.inj e, len_str]
      cases x.cps.toList with
      | nil => rfl
      | cons y ys =>
        rw [Bool.eq_iff_iff]
        simp
        omega
    · cases e
  | tup hs rs =>
    refine .inr (.inl ⟨_, hs, ?_⟩)
    rw [isEmpty_rds rs]
    exact (Option.some.inj e).symm
  | ref q =>
    simp only [truth] at e
    split at e
    · rename_i xs g
      obtain ⟨vs, g1, g2⟩ := hr.ok _ _ _ q g
      refine .inl ⟨vs, SqL.of g1, ?_⟩
      rw [isEmpty_rds g2]
      exact (Option.some.inj e).symm
    · rename_i xs g
      obtain ⟨vs, g1, g2⟩ := hr.ok _ _ _ q g
      refine .inr (.inr ⟨vs, g1, ?_⟩)
      rw [isEmpty_rk g2]
      exact (Option.some.inj e).symm
    · cases e
  | rl hs rs =>
    refine .inl ⟨_, hs.sq, ?_⟩
    rw [isEmpty_rds rs]
    exact (Option.some.inj e).symm
  | cv n => cases e
section
variable {X : Cx} {G : Gx} {W : WX} {pos : Pos} {a b c : Expr} {da db dc : Den} {ta tb : TDen} {f g : D → D → Hh → Res D} {rest : List Expr}
/-- an expression as a test, by its value's truth -/
theorem it_truth (hK : G.K = X.K) (ha : PE X a (tI G W da)) (he : ∀ whole, isTrue a X.env whole = (do let v ← whole; standAt a.pos; holding [v] (truthy v)) := by intro _; rfl) : PT X a (tB' G W (tT da)) := by
  refine pt_imp (pt_truth ha he) fun σ H Q ⟨ρ, h, e, hr, er, p⟩ => ?_
  refine tI.intro hr er (PostB.bind p) fun ρ1 h1 H1 x v l1 hr1 r1 p1 => ?_
  split at p1
  · rename_i k q
    exact ⟨k, hK ▸ truth_ok hr1 r1 q, p1 ρ1 H1 Le.refl hr1⟩
  · exact p1.elim
theorem tV_val {σ : L2.St} {H : Hp} {Q : Bool → Hp → Prop} (p : tB' G W (tV da) σ H Q) : tI G W da σ H fun x H' => ∃ k, x = .bl k ∧ Q k H' := by
  obtain ⟨ρ, h, e, hr, er, p⟩ := p
  refine tI.intro hr er (PostB.bind p) fun ρ1 h1 H1 x v l1 hr1 r1 p1 => ?_
  cases r1 <;> first
    | exact False.elim p1
    | exact ⟨_, rfl, p1 ρ1 H1 Le.refl hr1⟩
theorem it_cmp {op : CmpOp} (o : OpS X G (compareOp op) f) (ha : PE X a (tI G W da)) (hb : PE X b (tI G W db)) (hm : behindInMarks op b = false := by first | exact nomark _ | rfl | with_unfolding_all rfl) : PT X (.Compare a [op] [b] pos) (tB' G W (tV (dBin f da db))) := by
  obtain ⟨r, h1, h2⟩ := o
  exact pt_imp (pt_cmpR h1 ha hb hm) fun σ H Q p => tI_bin h2 σ H _ (tV_val p)
/-- a op b op' c -/
theorem tI_chain {r r' : R2} (hr : ∀ ρ h H x y dx dy (Q : VK) (W : XK), HR G ρ h H → RD G ρ H x dx → RD G ρ H y dy → Post G ρ H Q W (f dx dy h) → r x y H Q)
    (hr' : ∀ ρ h H x y dx dy (Q : VK) (W : XK), HR G ρ h H → RD G ρ H x dx → RD G ρ H y dy → Post G ρ H Q W (g dx dy h) → r' x y H Q) (σ : L2.St) (H : Hp) (Q : VK)
    (p : tI G W (dChain f g da db dc) σ H Q) : tChain r r' (tI G W da) (tI G W db) (tI G W dc) σ H Q := by
  obtain ⟨ρ, h, e, hh, er, p⟩ := p
  refine tI.intro hh er (Post.bind p) fun ρ1 h1 H1 x v l1 hh1 r1 p1 => ?_
  refine tI.intro hh1 (er.mono l1) (Post.bind p1) fun ρ2 h2 H2 y w l2 hh2 r2 p2 => ?_
  have p2' := Post.bind p2
  refine hr ρ2 h2 H2 v w x y _ (fun c d H' => W c d σ H') hh2 (r1.mono l2) r2 ?_
  cases q : f x y h2 with
  | bad => rw [q] at p2'; exact p2'
  | exc c fs h3 => rw [q] at p2'; exact p2'
  | ok z h3 =>
    rw [q] at p2'
    intro ρ3 vz H3 l3 hh3 r3
    have p3 := p2' ρ3 H3 l3 hh3
    cases r3 <;> first
      | exact False.elim p3
      | skip
    rename_i k
    refine ⟨k, rfl, ?_⟩
    cases k with
    | false => exact iteF (post_here p3 hh3 (.bl false))
    | true =>
      refine iteT ?_
      refine tI.intro hh3 (((er.mono l1).mono l2).mono l3) (Post.bind p3) fun ρ4 h4 H4 u vu l4 hh4 r4 p4 => ?_
      exact hr' ρ4 h4 H4 w vu y u Q _ hh4 ((r2.mono l3).mono l4) r4 p4
theorem ie_chain {op op' : CmpOp} (o : OpS X G (compareOp op) f) (o' : OpS X G (compareOp op') g) (ha : PE X a (tI G W da)) (hb : PE X b (tI G W db)) (hc : PE X c (tI G W dc))
    (hm : lastMarks [op, op'] [b, c] = false := by with_unfolding_all rfl) : PE X (.Compare a [op, op'] [b, c] pos) (tI G W (dChain f g da db dc)) := by
  obtain ⟨r, h1, h2⟩ := o
  obtain ⟨r', h1', h2'⟩ := o'
  exact pe_imp (pe_chain h1 h1' ha hb hc hm) (tI_chain h2 h2')
theorem it_chain {op op' : CmpOp} (o : OpS X G (compareOp op) f) (o' : OpS X G (compareOp op') g) (ha : PE X a (tI G W da)) (hb : PE X b (tI G W db)) (hc : PE X c (tI G W dc))
    (hm : lastMarks [op, op'] [b, c] = false := by with_unfolding_all rfl) : PT X (.Compare a [op, op'] [b, c] pos) (tB' G W (tV (dChain f g da db dc))) := by
  obtain ⟨r, h1, h2⟩ := o
  obtain ⟨r', h1', h2'⟩ := o'
  exact pt_imp (pt_chain h1 h1' ha hb hc hm) fun σ H Q p => tI_chain h2 h2' σ H _ (tV_val p)
theorem iw_and1 (ha : PT X a (tB' G W ta)) : PW X (.BoolOp .And [a] pos) (tB' G W ta) := pw_and1 ha
theorem iw_or1 (ha : PT X a (tB' G W ta)) : PW X (.BoolOp .Or [a] pos) (tB' G W ta) := pw_or1 ha
theorem iw_and (ha : PT X a (tB' G W ta)) (hb : PW X (.BoolOp .And (b :: rest) pos) (tB' G W tb)) : PW X (.BoolOp .And (a :: b :: rest) pos) (tB' G W (PI.tAnd ta tb)) := by
  refine pw_imp (pw_and ha hb) fun σ H Q ⟨ρ, h, e, hr, er, p⟩ => ?_
  refine tB'.intro hr er (PostB.bind p) fun ρ1 h1 H1 k l1 hr1 p1 => ?_
  cases k with
  | true => exact iteT ⟨ρ1, h1, e, hr1, er.mono l1, p1⟩
  | false => exact iteF (p1 ρ1 H1 Le.refl hr1)
theorem iw_or (ha : PT X a (tB' G W ta)) (hb : PW X (.BoolOp .Or (b :: rest) pos) (tB' G W tb)) : PW X (.BoolOp .Or (a :: b :: rest) pos) (tB' G W (PI.tOr ta tb)) := by
  refine pw_imp (pw_or ha hb) fun σ H Q ⟨ρ, h, e, hr, er, p⟩ => ?_
  refine tB'.intro hr er (PostB.bind p) fun ρ1 h1 H1 k l1 hr1 p1 => ?_
  cases k with
  | true => exact iteT (p1 ρ1 H1 Le.refl hr1)
  | false => exact iteF ⟨ρ1, h1, e, hr1, er.mono l1, p1⟩
theorem it_not (ha : PT X a (tB' G W ta)) : PT X (.UnaryOp .Not a pos) (tB' G W (PI.tNot ta)) := by
  refine pt_imp (pt_not ha) fun σ H Q ⟨ρ, h, e, hr, er, p⟩ => ?_
  exact tB'.intro hr er (PostB.bind p) fun ρ1 h1 H1 k l1 hr1 p1 => p1 ρ1 H1 Le.refl hr1
/-- and, or, not as values -/
theorem ie_one {op : BoolOp} (ha : PE X a (tI G W da)) : PE X (.BoolOp op [a] pos) (tI G W da) := pe_one ha
theorem ie_and (hK : G.K = X.K) (ha : PE X a (tI G W da)) (hb : PE X (.BoolOp .And (b :: rest) pos) (tI G W db)) : PE X (.BoolOp .And (a :: b :: rest) pos) (tI G W (dAnd da db)) := by
  refine pe_imp (pe_andT ha hb) fun σ H Q ⟨ρ, h, e, hr, er, p⟩ => ?_
  refine tI.intro hr er (Post.bind p) fun ρ1 h1 H1 x v l1 hr1 r1 p1 => ?_
  split at p1
  · rename_i q
    exact ⟨true, hK ▸ truth_ok hr1 r1 q, iteT ⟨ρ1, h1, e, hr1, er.mono l1, p1⟩⟩
  · rename_i q
    exact ⟨false, hK ▸ truth_ok hr1 r1 q, iteF (post_here p1 hr1 r1)⟩
  · exact p1.elim
theorem ie_or (hK : G.K = X.K) (ha : PE X a (tI G W da)) (hb : PE X (.BoolOp .Or (b :: rest) pos) (tI G W db)) : PE X (.BoolOp .Or (a :: b :: rest) pos) (tI G W (dOr da db)) := by
  refine pe_imp (pe_orT ha hb) fun σ H Q ⟨ρ, h, e, hr, er, p⟩ => ?_
  refine tI.intro hr er (Post.bind p) fun ρ1 h1 H1 x v l1 hr1 r1 p1 => ?_
  split at p1
  · rename_i q
    exact ⟨true, hK ▸ truth_ok hr1 r1 q, iteT (post_here p1 hr1 r1)⟩
  · rename_i q
    exact ⟨false, hK ▸ truth_ok hr1 r1 q, iteF ⟨ρ1, h1, e, hr1, er.mono l1, p1⟩⟩
  · exact p1.elim
theorem ie_not (hK : G.K = X.K) (ha : PE X a (tI G W da)) : PE X (.UnaryOp .Not a pos) (tI G W (dNot da)) := by
  refine pe_imp (pe_notT ha) fun σ H Q ⟨ρ, h, e, hr, er, p⟩ => ?_
  refine tI.intro hr er (Post.bind p) fun ρ1 h1 H1 x v l1 hr1 r1 p1 => ?_
  split at p1
  · rename_i k q
    exact ⟨k, hK ▸ truth_ok hr1 r1 q, post_here p1 hr1 (.bl _)⟩
  · exact p1.elim
theorem ie_if (hc : PT X c (tB' G W ta)) (ha : PE X a (tI G W da)) (hb : PE X b (tI G W db)) : PE X (.IfExp c a b pos) (tI G W (dIf ta da db)) := by
  refine pe_imp (pe_ifExp hc ha hb) fun σ H Q ⟨ρ, h, e, hr, er, p⟩ => ?_
  refine tB'.intro hr er (Post.bind p) fun ρ1 h1 H1 k l1 hr1 p1 => ?_
  cases k with
  | true => exact iteT ⟨ρ1, h1, e, hr1, er.mono l1, p1⟩
  | false => exact iteF ⟨ρ1, h1, e, hr1, er.mono l1, p1⟩
/-- is None, is not None -/
theorem isN_ok {ρ : List Addr} {H : Hp} {v : V} {d : D} {k : Bool} (r : RD G ρ H v d) (e : isN d = some k) : decide (v = .non) = k := by
  cases r <;> simp_all [isN]
theorem ie_isN {j : Nat} {p2 : Pos} (ha : PE X a (tI G W da)) : PE X (.Compare a [.Is] [.Constant .none j p2] pos) (tI G W (dUn cIsN da)) := by
  refine pe_imp (pe_cmpR op_isN ha pe_non (nomark _)) fun σ H Q ⟨ρ, h, e, hr, er, p⟩ => ?_
  refine tI.intro hr er (Post.bind p) fun ρ1 h1 H1 x v l1 hr1 r1 p1 => ⟨rfl, ?_⟩
  unfold cIsN at p1
  split at p1
  · rename_i k q
    rw [isN_ok r1 q]
    exact post_here p1 hr1 (.bl k)
  · exact p1.elim
theorem ie_notN {j : Nat} {p2 : Pos} (ha : PE X a (tI G W da)) : PE X (.Compare a [.IsNot] [.Constant .none j p2] pos) (tI G W (dUn cNotN da)) := by
  refine pe_imp (pe_cmpR op_notN ha pe_non (nomark _)) fun σ H Q ⟨ρ, h, e, hr, er, p⟩ => ?_
  refine tI.intro hr er (Post.bind p) fun ρ1 h1 H1 x v l1 hr1 r1 p1 => ⟨rfl, ?_⟩
  unfold cNotN at p1
  split at p1
  · rename_i k q
    rw [isN_ok r1 q]
    exact post_here p1 hr1 (.bl _)
  · exact p1.elim
theorem it_isN {j : Nat} {p2 : Pos} (ha : PE X a (tI G W da)) : PT X (.Compare a [.Is] [.Constant .none j p2] pos) (tB' G W (tV (dUn cIsN da))) := by
  refine pt_imp (pt_cmpR op_isN ha pe_non (nomark _)) fun σ H Q p => ?_
  obtain ⟨ρ, h, e, hr, er, p⟩ := tV_val p
  refine tI.intro hr er (Post.bind p) fun ρ1 h1 H1 x v l1 hr1 r1 p1 => ⟨rfl, ?_⟩
  unfold cIsN at p1
  split at p1
  · rename_i k q
    rw [isN_ok r1 q]
    exact post_here p1 hr1 (.bl k)
  · exact p1.elim
theorem it_notN {j : Nat} {p2 : Pos} (ha : PE X a (tI G W da)) : PT X (.Compare a [.IsNot] [.Constant .none j p2] pos) (tB' G W (tV (dUn cNotN da))) := by
  refine pt_imp (pt_cmpR op_notN ha pe_non (nomark _)) fun σ H Q p => ?_
  obtain ⟨ρ, h, e, hr, er, p⟩ := tV_val p
  refine tI.intro hr er (Post.bind p) fun ρ1 h1 H1 x v l1 hr1 r1 p1 => ⟨rfl, ?_⟩
  unfold cNotN at p1
  split at p1
  · rename_i k q
    rw [isN_ok r1 q]
    exact post_here p1 hr1 (.bl _)
  · exact p1.elim
/-- what is compares with a bool by its looks -/
def isV : V → Bool
  | .non => true | .bl _ => true | .int _ => true | .str _ => true | .ref _ => true | _ => false
theorem op_isX : OpR X (compareOp .Is) (fun x y H Q => ∃ c, y = .bl c ∧ isV x = true ∧ Q (.bl (decide (x = .bl c))) H) := by
  intro pins s σ H x y v u Q I rx ry h
  obtain ⟨c, rfl, hx, q⟩ := h
  cases (show u = Value.bool c from ry)
  by_cases e : x = .bl c
  · subst e
    cases (show v = Value.bool c from rx)
    exact wpAny_is_self rfl ⟨.bl true, H, I, rfl, by simpa using q⟩
  · rw [decide_eq_false e] at q
    cases x <;> first
      | (cases hx; done)
      | skip
    · cases rx
      exact wpAny_is_other rfl (fun z => nomatch z) ⟨.bl false, H, I, rfl, q⟩
    · cases rx
      exact wpAny_is_other rfl (fun z => e (congrArg V.bl (Value.bool.inj z))) ⟨.bl false, H, I, rfl, q⟩
    · obtain ⟨t, rfl⟩ := rx
      exact wpAny_is_other rfl (fun z => nomatch z) ⟨.bl false, H, I, rfl, q⟩
    · obtain ⟨t, rfl⟩ := rx
      exact wpAny_is_other rfl (fun z => nomatch z) ⟨.bl false, H, I, rfl, q⟩
    · cases rx
      exact wpAny_is_other rfl (fun z => nomatch z) ⟨.bl false, H, I, rfl, q⟩
theorem op_notX : OpR X (compareOp .IsNot) (fun x y H Q => ∃ c, y = .bl c ∧ isV x = true ∧ Q (.bl (!decide (x = .bl c))) H) := by
  intro pins s σ H x y v u Q I rx ry h
  obtain ⟨c, rfl, hx, q⟩ := h
  cases (show u = Value.bool c from ry)
  by_cases e : x = .bl c
  · subst e
    cases (show v = Value.bool c from rx)
    exact wpAny_isNot_self rfl ⟨.bl false, H, I, rfl, by simpa using q⟩
  · rw [decide_eq_false e] at q
    cases x <;> first
      | (cases hx; done)
      | skip
    · cases rx
      exact wpAny_isNot_other rfl (fun z => nomatch z) ⟨.bl true, H, I, rfl, q⟩
    · cases rx
      exact wpAny_isNot_other rfl (fun z => e (congrArg V.bl (Value.bool.inj z))) ⟨.bl true, H, I, rfl, q⟩
    · obtain ⟨t, rfl⟩ := rx
      exact wpAny_isNot_other rfl (fun z => nomatch z) ⟨.bl true, H, I, rfl, q⟩
    · obtain ⟨t, rfl⟩ := rx
      exact wpAny_isNot_other rfl (fun z => nomatch z) ⟨.bl true, H, I, rfl, q⟩
    · cases rx
      exact wpAny_isNot_other rfl (fun z => nomatch z) ⟨.bl true, H, I, rfl, q⟩
theorem isBl_ok {ρ : List Addr} {H : Hp} {c b : Bool} {v : V} {d : D} (r : RD G ρ H v d) (e : isBl c d = some b) : isV v = true ∧ decide (v = .bl c) = b := by
  cases r with
  | bl a =>
    cases e
    refine ⟨rfl, ?_⟩
    by_cases q : a = c
    · rw [decide_eq_true q, decide_eq_true (congrArg V.bl q)]
    · rw [decide_eq_false q, decide_eq_false fun z => q (V.bl.inj z)]
  | cv n => cases e
  | non => cases e; exact ⟨rfl, decide_eq_false fun z => nomatch z⟩
  | int i => cases e; exact ⟨rfl, decide_eq_false fun z => nomatch z⟩
  | str x => cases e; exact ⟨rfl, decide_eq_false fun z => nomatch z⟩
  | tup _ _ => cases e; exact ⟨rfl, decide_eq_false fun z => nomatch z⟩
  | ref _ => cases e; exact ⟨rfl, decide_eq_false fun z => nomatch z⟩
  | rl _ _ => cases e; exact ⟨rfl, decide_eq_false fun z => nomatch z⟩
theorem os_isB : OpS X G (compareOp .Is) cIsB := ⟨_, op_isX, fun ρ h H x y dx dy Q W hr rx ry p => by
  cases ry <;> first
    | (cases dx <;> exact False.elim p)
    | skip
  simp only [cIsB] at p
  split at p
  · rename_i b e
    obtain ⟨h1, h2⟩ := isBl_ok rx e
    exact ⟨_, rfl, h1, by rw [h2]; exact post_here p hr (.bl _)⟩
  · exact p.elim⟩
theorem os_notB : OpS X G (compareOp .IsNot) cNotB := ⟨_, op_notX, fun ρ h H x y dx dy Q W hr rx ry p => by
  cases ry <;> first
    | (cases dx <;> exact False.elim p)
    | skip
  simp only [cNotB] at p
  split at p
  · rename_i b e
    obtain ⟨h1, h2⟩ := isBl_ok rx e
    exact ⟨_, rfl, h1, by rw [h2]; exact post_here p hr (.bl _)⟩
  · exact p.elim⟩
end

/-! ### places, cuts -/
theorem ixOf_eq (n : Nat) (i : Int) : ixOf n i = ixN n i := rfl
theorem atIx_get {G : Gx} {ρ : List Addr} {H : Hp} {vs : List V} {ds : List D} {i : Int} {d : D} (r : RDs G ρ H vs ds) (e : atIx ds i = some d) : ∃ v, atI vs i = some v ∧ RD G ρ H v d := by
  unfold atIx at e
  unfold atI
  rw [r.length, ← ixOf_eq]
  cases q : ixOf ds.length i with
  | none => rw [q] at e; cases e
  | some j =>
    rw [q] at e
    exact r.get e
theorem sIdx_eq (n d : Nat) (o : Option Int) : sIdx n d o = HT.sIx n d o := by
  cases o <;> rfl
theorem cut_str (z : Str) (lo hi : Option Int) : (cutS z lo hi).cps.toList = cut z.cps.toList lo hi := by
  unfold cutS cut
  rw [sIdx_eq, sIdx_eq, len_str]
theorem cut_eq {G : Gx} {ρ : List Addr} {H : Hp} {vs : List V} {ds : List D} (lo hi : Option Int) (r : RDs G ρ H vs ds) : RDs G ρ H (cutV vs lo hi) (cut ds lo hi) := by
  have e : ∀ (n d : Nat) (o : Option Int), sIdx n d o = HT.sIx n d o := fun n d o => by
    cases o with
    | none => rfl
    | some v => rfl
  unfold cutV cut
  rw [r.length, e, e]
  exact (r.drop _).take _
section
variable {X : Cx} {G : Gx} {W : WX} {pos p2 : Pos} {a b : Expr} {lo hi : Option Expr} {da db : Den} {dl dh : ODen}
theorem ie_ix (hK : G.K = X.K) (ha : PE X a (tI G W da)) (hb : PE X b (tI G W db)) (hs : PlainIx b := by exact fun _ _ => rfl) : PE X (.Subscript a b pos) (tI G W (dBin oIx da db)) := by
  refine pe_imp (pe_ix ix_seq ha hb hs) (tI_bin fun ρ h H x y dx dy Q W hr rx ry p => ?_)
  cases dx with
  | tup ds =>
    cases rx with
    | tup hs r =>
      cases ry <;> first
        | exact False.elim p
        | skip
      simp only [oIx] at p
      split at p
      · rename_i d q
        obtain ⟨v, g1, g2⟩ := atIx_get r q
        exact .inr (.inl ⟨_, _, _, v, rfl, rfl, hK ▸ hs, g1, post_here p hr g2⟩)
      · exact p.elim
  | str s =>
    obtain ⟨z, rfl, rfl⟩ := rd_str_inv rx
    cases ry <;> first
      | exact False.elim p
      | skip
    simp only [oIx] at p
    split at p
    · rename_i c
      split at p
      · rename_i d q
        refine .inr (.inr ⟨z, _, d, rfl, rfl, by rw [len_str, ← SLe]; exact c, ?_, post_here p hr (rd_str rfl)⟩)
        exact q
      · exact p.elim
    · exact p.elim
  | ref n =>
    cases ry <;> first
      | exact False.elim p
      | skip
    simp only [oIx] at p
    split at p
    · rename_i xs g
      obtain ⟨_, vs, rfl, g1, g2⟩ := list_ok hr rx g
      split at p
      · rename_i d q
        obtain ⟨v, g3, g4⟩ := atIx_get g2 q
        exact .inl ⟨_, _, _, v, rfl, rfl, hK ▸ g1, g3, post_here p hr g4⟩
      · exact p.elim
    · exact p.elim
  | rl n =>
    cases ry <;> first
      | exact False.elim p
      | skip
    simp only [oIx] at p
    split at p
    · rename_i xs g
      obtain ⟨_, vs, rfl, g1, g2⟩ := list_ok hr rx g
      split at p
      · rename_i d q
        obtain ⟨v, g3, g4⟩ := atIx_get g2 q
        exact .inl ⟨_, _, _, v, rfl, rfl, hK ▸ g1, g3, post_here p hr g4⟩
      · exact p.elim
    · exact p.elim
  | _ => cases ry <;> exact False.elim p
/-- a part of a cut -/
def PostO (G : Gx) (ρ : List Addr) (H : Hp) (Q : Option Int → Hp → Prop) (W : XK) : Res (Option Int) → Prop
  | .bad => False
  | .ok o h => ∀ ρ' H', Le G ρ H ρ' H' → HR G ρ' h H' → Q o H'
  | .exc c fs h => ∀ ρ' dd H', Le G ρ H ρ' H' → HR G ρ' h H' → XR G ρ' H' dd fs → W (G.cm c) dd H'
def tO (G : Gx) (W : WX) (a : ODen) : TO := fun σ H Q => ∃ ρ h e, HR G ρ h H ∧ ER G ρ H σ e ∧ PostO G ρ H Q (fun c d H' => W c d σ H') (a e h)
theorem tO.intro {ρ : List Addr} {H : Hp} {h : Hh} {σ : L2.St} {e : En} {a : ODen} {Q : Option Int → Hp → Prop} {F : List Addr → Hh → Hp → Option Int → Prop} (hr : HR G ρ h H) (er : ER G ρ H σ e) (p : PostG G ρ H F (fun c d H' => W c d σ H') (a e h))
    (f : ∀ ρ' h' H' b, Le G ρ H ρ' H' → HR G ρ' h' H' → F ρ' h' H' b → Q b H') : tO G W a σ H Q := by
  refine ⟨ρ, h, e, hr, er, ?_⟩
  cases q : a e h with
  | bad => rw [q] at p; exact p
  | ok d h' => rw [q] at p; exact fun ρ' H' l hr' => f ρ' h' H' d l hr' (p ρ' H' l hr')
  | exc c fs h' => rw [q] at p; exact p
theorem po_imp {e : Option Expr} {t t' : TO} (p : PO X e t) (h : ∀ σ H Q, t' σ H Q → t σ H Q) : PO X e t' := ⟨fun pins s σ H Q I q => p.run pins s σ H Q I (h σ H Q q)⟩
theorem io_none : PO X none (tO G W pNone) := po_imp po_none fun σ H Q ⟨ρ, h, e, hr, er, p⟩ => p ρ H Le.refl hr
theorem io_some (ha : PE X a (tI G W da)) : PO X (some a) (tO G W (pSome da)) := by
  refine po_imp (po_some ha) fun σ H Q ⟨ρ, h, e, hr, er, p⟩ => ?_
  have p' : PostG G ρ H (fun ρ' h' H' x => match x with | .int i => ∀ ρ2 H2, Le G ρ' H' ρ2 H2 → HR G ρ2 h' H2 → Q (some i) H2 | _ => False) (fun c d H' => W c d σ H') (da e h) := by
    unfold pSome at p
    cases q : da e h with
    | bad => rw [q] at p; exact p
    | exc c fs h' => rw [q] at p; exact p
    | ok x h' =>
      rw [q] at p
      intro ρ' H' l hr'
      cases x <;> first
        | exact False.elim p
        | exact fun ρ2 H2 l2 => p ρ2 H2 (l.trans l2)
  refine tI.intro hr er p' fun ρ1 h1 H1 x v l1 hr1 r1 p1 => ?_
  cases r1 <;> first
    | exact False.elim p1
    | exact ⟨_, rfl, p1 ρ1 H1 Le.refl hr1⟩
theorem rds_same {ρ : List Addr} {H : Hp} {vs : List V} {ds : List D} {lo hi : Option Int} (r : RDs G ρ H vs ds) (w : HT.sIx vs.length 0 lo = 0 ∧ HT.sIx vs.length vs.length hi = vs.length) : RDs G ρ H vs (cut ds lo hi) := by
  have q := cut_eq lo hi r
  have e : cutV vs lo hi = vs := by
    unfold cutV
    rw [w.1, w.2]
    simp
  rw [e] at q
  exact q
theorem ie_sl (hK : G.K = X.K) (ha : PE X a (tI G W da)) (hl : PO X lo (tO G W dl)) (hh : PO X hi (tO G W dh)) : PE X (.Subscript a (.Slice lo hi none p2) pos) (tI G W (dSl da dl dh)) := by
  refine pe_imp (pe_slice (sl_list.or (sl_tupA.or sl_str)) ha hl hh) fun σ H Q ⟨ρ, h, e, hr, er, p⟩ => ?_
  refine tI.intro hr er (Post.bind p) fun ρ1 h1 H1 x v l1 hr1 r1 p1 => ?_
  refine tO.intro hr1 (er.mono l1) (Post.bind p1) fun ρ2 h2 H2 l l2 hr2 p2 => ?_
  refine tO.intro hr2 ((er.mono l1).mono l2) (Post.bind p2) fun ρ3 h3 H3 u l3 hr3 p3 => ?_
  have r3 := (r1.mono l2).mono l3
  have r4 := r3
  cases r3 with
  | tup hs r =>
    refine .inr (.inl ⟨_, _, rfl, hK ▸ hs, fun w => ?_, fun _ a ha => post_tup p3 hr3 (cut_eq l u r) ha⟩)
    exact post_here p3 hr3 (.tup hs (rds_same r w))
  | str z =>
    simp only [oSl] at p3
    split at p3
    · rename_i c
      refine .inr (.inr ⟨z, rfl, by rw [len_str, ← SLe]; exact c, post_here p3 hr3 (rd_str (cut_str z l u))⟩)
    · exact p3.elim
  | ref q =>
    simp only [oSl] at p3
    split at p3
    · rename_i xs g
      obtain ⟨_, vs, e0, g1, g2⟩ := list_ok hr3 r4 g
      exact .inl ⟨_, _, e0, hK ▸ g1, fun a ha => post_lst p3 hr3 (cut_eq l u g2) ha⟩
    · exact p3.elim
  | rl q =>
    simp only [oSl] at p3
    split at p3
    · rename_i xs g
      obtain ⟨_, vs, e0, g1, g2⟩ := list_ok hr3 r4 g
      exact .inl ⟨_, _, e0, hK ▸ g1, fun a ha => post_lst p3 hr3 (cut_eq l u g2) ha⟩
    · exact p3.elim
  | _ => exact False.elim p3
end
end PI
/-! ## Pi4 -/
set_option Elab.async false
set_option linter.all false
set_option maxRecDepth 100000
set_option maxHeartbeats 1000000
set_option autoImplicit false
/-! PI, part 4: built-ins by name, isinstance, methods of lists. -/
namespace PI
open PySem L2
/-- a call of a known value does what g says -/
def CallS (X : Cx) (G : Gx) (f : Value) (g : List D → Hh → Res D) : Prop := ∃ r : List V → Hp → VK → Prop, CallR X f r ∧
  ∀ ρ h H xs ds (Q : VK) (W : XK), HR G ρ h H → RDs G ρ H xs ds → Post G ρ H Q W (g ds h) → r xs H Q
section
variable {X : Cx} {G : Gx} {W : WX} {pos p : Pos} {e : Expr} {es : List Expr} {da : Den} {dr : ADen} {g : List D → Hh → Res D} {x : Str}
theorem tI_args {r : List V → Hp → VK → Prop} (hr : ∀ ρ h H xs ds (Q : VK) (W : XK), HR G ρ h H → RDs G ρ H xs ds → Post G ρ H Q W (g ds h) → r xs H Q) (σ : L2.St) (H : Hp) (Q : VK) (p : tI G W (dArgs g dr) σ H Q) : tCB r (tA G W dr) σ H Q := by
  obtain ⟨ρ, h, e, hh, er, p⟩ := p
  exact tA.intro hh er (Post.bind p) fun ρ1 h1 H1 xs vs l1 hr1 r1 p1 => hr ρ1 h1 H1 vs xs Q _ hr1 r1 p1
theorem ie_callB {id : String} (c : CallS X G (.builtin id) g) (hg : Gl X x) (hm : X.mg x = none) (hv : bootBuiltins x = some (.builtin id)) (ha : PA X (e :: es) (tA G W dr)) (hn : x ≠ "__name__" := by decide) (hdb : (x == ("__debug__" : Str)) = false := by decide)
    (he : starEach (e :: es) X.env = (false, eval e X.env) :: starEach es X.env := by rfl) (hpl : (backTo pos (starEach es X.env)).any (·.1) = false := by rfl) : PE X (.Call (.Name x p) (e :: es) [] pos) (tI G W (dArgs g dr)) := by
  obtain ⟨r, h1, h2⟩ := c
  exact pe_imp (pe_callB h1 hg hm hv ha hn hdb he hpl) (tI_args h2)
theorem ie_callTy {T : String} (c : CallS X G (.type T) g) (hg : Gl X x) (hm : X.mg x = none) (hv : bootBuiltins x = some (.type T)) (ha : PA X (e :: es) (tA G W dr)) (hn : x ≠ "__name__" := by decide) (hdb : (x == ("__debug__" : Str)) = false := by decide)
    (he : starEach (e :: es) X.env = (false, eval e X.env) :: starEach es X.env := by rfl) (hpl : (backTo pos (starEach es X.env)).any (·.1) = false := by rfl) : PE X (.Call (.Name x p) (e :: es) [] pos) (tI G W (dArgs g dr)) := by
  obtain ⟨r, h1, h2⟩ := c
  exact pe_imp (pe_callTy h1 hg hm hv ha hn hdb he hpl) (tI_args h2)
end
section
variable {X : Cx} {G : Gx}
/-- the one argument of a call, by its form -/
theorem cs_len (hK : G.K = X.K) : CallS X G (.builtin "len") bLen := ⟨_, call_len.or call_lenD, fun ρ h H xs ds Q W hr r p => by
  cases r with
  | nil => exact False.elim p
  | cons a r' =>
    cases r' with
    | cons _ _ => cases a <;> exact False.elim p
    | nil =>
      cases a with
      | tup hs rs => exact .inl ⟨_, _, rfl, .inr ⟨_, hK ▸ hs, rfl⟩, by rw [rs.length]; exact post_here p hr (.int _)⟩
      | str z =>
        simp only [bLen] at p
        split at p
        · rename_i c
          exact .inl ⟨_, _, rfl, ⟨by rw [len_str, ← SLe]; exact c, rfl⟩, by rw [len_str]; exact post_here p hr (.int _)⟩
        · exact p.elim
      | ref q =>
        simp only [bLen] at p
        split at p
        · rename_i ys g
          obtain ⟨vs, g1, g2⟩ := hr.ok _ _ _ q g
          exact .inl ⟨_, _, rfl, .inl ⟨vs, SqL.of g1, rfl⟩, by rw [g2.length]; exact post_here p hr (.int _)⟩
        · rename_i ys g
          obtain ⟨vs, g1, g2⟩ := hr.ok _ _ _ q g
          exact .inr ⟨_, _, rfl, g1, by rw [g2.length]; exact post_here p hr (.int _)⟩
        · exact p.elim
      | rl hs rs => exact .inl ⟨_, _, rfl, .inl ⟨_, hK ▸ hs.sq, rfl⟩, by rw [rs.length]; exact post_here p hr (.int _)⟩
      | _ => exact False.elim p⟩
theorem cs_list (hK : G.K = X.K) : CallS X G (.type "list") bList := ⟨_, call_list_of, fun ρ h H xs ds Q W hr r p => by
  cases r with
  | nil => exact False.elim p
  | cons a r' =>
    cases r' with
    | cons _ _ => cases a <;> exact False.elim p
    | nil =>
      have key : ∀ {v : V} {d : D}, RD G ρ H v d → Post G ρ H Q W (match listOf h d with | some xs => .ok (.ref h.length) (h ++ [.lst xs]) | none => .bad) → (∃ p ys, [v] = [V.ref p] ∧ (SqL X.K H p ys ∨ SqT X.K H p ys) ∧ ∀ l, H l = none → Q (.ref l) (upd H l (.lst ys))) := fun {v d} a p => by
        split at p
        · rename_i ys g
          obtain ⟨_, vs, e, g1, g2⟩ := list_ok hr a g
          exact ⟨_, _, congrArg (fun x => [x]) e, .inl (hK ▸ g1), fun l hl => post_lst p hr g2 hl⟩
        · exact p.elim
      cases a with
      | tup hs rs => exact ⟨_, _, rfl, .inr (hK ▸ hs), fun l hl => post_lst p hr rs hl⟩
      | ref q => exact key (.ref q) p
      | rl hs rs => exact key (.rl hs rs) p
      | _ => exact False.elim p⟩
theorem cs_tuple (hK : G.K = X.K) : CallS X G (.type "tuple") bTuple := ⟨_, call_tuple_of, fun ρ h H xs ds Q W hr r p => by
  cases r with
  | nil => exact False.elim p
  | cons a r' =>
    cases r' with
    | cons _ _ => cases a <;> exact False.elim p
    | nil =>
      have key : ∀ {v : V} {d : D}, RD G ρ H v d → Post G ρ H Q W (match listOf h d with | some xs => .ok (.tup xs) h | none => .bad) → (∃ p ys, [v] = [V.ref p] ∧ ((SqL X.K H p ys ∧ ∀ l, H l = none → Q (.ref l) (upd H l (.tup ys))) ∨ (SqT X.K H p ys ∧ Q (.ref p) H))) := fun {v d} a p => by
        split at p
        · rename_i ys g
          obtain ⟨_, vs, e, g1, g2⟩ := list_ok hr a g
          exact ⟨_, _, congrArg (fun x => [x]) e, .inl ⟨hK ▸ g1, fun l hl => post_tup p hr g2 hl⟩⟩
        · exact p.elim
      cases a with
      | tup hs rs => exact ⟨_, _, rfl, .inr ⟨hK ▸ hs, post_here p hr (.tup hs rs)⟩⟩
      | ref q => exact key (.ref q) p
      | rl hs rs => exact key (.rl hs rs) p
      | _ => exact False.elim p⟩
theorem cs_int : CallS X G (.type "int") bInt := ⟨_, call_int1, fun ρ h H xs ds Q W hr r p => by
  cases r with
  | nil => exact False.elim p
  | cons a r' =>
    cases r' with
    | cons _ _ => cases a <;> exact False.elim p
    | nil =>
      cases a with
      | int i => exact .inl ⟨_, rfl, post_here p hr (.int _)⟩
      | bl b => exact .inr ⟨_, rfl, post_here p hr (.int _)⟩
      | _ => exact False.elim p⟩
theorem cs_abs : CallS X G (.builtin "abs") bAbs := ⟨_, call_abs, fun ρ h H xs ds Q W hr r p => by
  cases r with
  | nil => exact False.elim p
  | cons a r' =>
    cases r' with
    | cons _ _ => cases a <;> exact False.elim p
    | nil =>
      cases a with
      | int i => exact ⟨_, rfl, post_here p hr (.int _)⟩
      | _ => exact False.elim p⟩
theorem ints_ok {ρ : List Addr} {H : Hp} : ∀ {vs : List V} {ds : List D} {is : List Int}, RDs G ρ H vs ds → intsOf ds = some is → vs = is.map V.int
  | _, _, _, .nil, e => by
    cases e
    rfl
  | _, _, is, .cons a r, e => by
    cases a with
    | int i =>
      simp only [intsOf] at e
      rw [Option.map_eq_some_iff] at e
      obtain ⟨js, e1, rfl⟩ := e
      rw [ints_ok r e1]
      rfl
    | _ => cases e
theorem bls_ok {ρ : List Addr} {H : Hp} : ∀ {vs : List V} {ds : List D} {is : List Bool}, RDs G ρ H vs ds → blsOf ds = some is → vs = is.map V.bl
  | _, _, _, .nil, e => by
    cases e
    rfl
  | _, _, is, .cons a r, e => by
    cases a with
    | bl i =>
      simp only [blsOf] at e
      rw [Option.map_eq_some_iff] at e
      obtain ⟨js, e1, rfl⟩ := e
      rw [bls_ok r e1]
      rfl
    | _ => cases e
theorem lst_arg {ρ : List Addr} {h : Hh} {H : Hp} {v : V} {d : D} {γ : Type} {f : List D → Option γ} {z : γ} (hr : HR G ρ h H) (r : RD G ρ H v d) (e : (listOf h d).bind f = some z) : ∃ a ds vs, v = .ref a ∧ SqL G.K H a vs ∧ RDs G ρ H vs ds ∧ f ds = some z := by
  cases g : listOf h d with
  | none => rw [g] at e; cases e
  | some ds =>
    rw [g] at e
    obtain ⟨a, vs, g0, g1, g2⟩ := list_ok hr r g
    exact ⟨a, ds, vs, g0, g1, g2, e⟩
theorem cs_sum (hK : G.K = X.K) (hc : X.calm = true) : CallS X G (.builtin "sum") bSum := ⟨_, cr_sum hc, fun ρ h H xs ds Q W hr r p => by
  cases r with
  | nil => exact False.elim p
  | cons a r' =>
    cases r' with
    | cons _ _ => exact False.elim p
    | nil =>
      simp only [bSum] at p
      split at p
      · rename_i is e
        obtain ⟨_, ds, vs, rfl, g1, g2, g3⟩ := lst_arg hr a e
        have z := ints_ok g2 g3
        subst z
        exact ⟨_, _, rfl, hK ▸ g1, post_here p hr (.int _)⟩
      · exact p.elim⟩
theorem cs_all (hK : G.K = X.K) (hc : X.calm = true) : CallS X G (.builtin "all") bAll := ⟨_, cr_all hc, fun ρ h H xs ds Q W hr r p => by
  cases r with
  | nil => exact False.elim p
  | cons a r' =>
    cases r' with
    | cons _ _ => exact False.elim p
    | nil =>
      simp only [bAll] at p
      split at p
      · rename_i is e
        obtain ⟨_, ds, vs, rfl, g1, g2, g3⟩ := lst_arg hr a e
        have z := bls_ok g2 g3
        subst z
        exact ⟨_, _, rfl, hK ▸ g1, post_here p hr (.bl _)⟩
      · exact p.elim⟩
theorem cs_any (hK : G.K = X.K) (hc : X.calm = true) : CallS X G (.builtin "any") bAny := ⟨_, cr_any hc, fun ρ h H xs ds Q W hr r p => by
  cases r with
  | nil => exact False.elim p
  | cons a r' =>
    cases r' with
    | cons _ _ => exact False.elim p
    | nil =>
      simp only [bAny] at p
      split at p
      · rename_i is e
        obtain ⟨_, ds, vs, rfl, g1, g2, g3⟩ := lst_arg hr a e
        have z := bls_ok g2 g3
        subst z
        exact ⟨_, _, rfl, hK ▸ g1, post_here p hr (.bl _)⟩
      · exact p.elim⟩
theorem cs_max2 (hc : X.calm = true) : CallS X G (.builtin "max") bMax2 := ⟨_, call_max2 hc, fun ρ h H xs ds Q W hr r p => by
  cases r with
  | nil => exact False.elim p
  | cons a r' =>
    cases r' with
    | nil => cases a <;> exact False.elim p
    | cons b r'' =>
      cases a <;> cases b <;> first
        | exact False.elim p
        | (cases r'' with
           | nil => exact ⟨_, _, rfl, post_here p hr (.int _)⟩
           | cons _ _ => exact False.elim p)⟩
theorem cs_min2 (hc : X.calm = true) : CallS X G (.builtin "min") bMin2 := ⟨_, call_min2 hc, fun ρ h H xs ds Q W hr r p => by
  cases r with
  | nil => exact False.elim p
  | cons a r' =>
    cases r' with
    | nil => cases a <;> exact False.elim p
    | cons b r'' =>
      cases a <;> cases b <;> first
        | exact False.elim p
        | (cases r'' with
           | nil => exact ⟨_, _, rfl, post_here p hr (.int _)⟩
           | cons _ _ => exact False.elim p)⟩
end

/-! ### isinstance -/
def Ty.nm : Ty → String
  | .int => "int" | .bool => "bool" | .str => "str" | .tuple => "tuple" | .list => "list" | .dict => "dict"
theorem kit_none (t : Ty) : kitB "NoneType" t.nm = some false := by cases t <;> decide +kernel
theorem kit_bool (t : Ty) : kitB "bool" t.nm = some (decide (t = .bool ∨ t = .int)) := by cases t <;> decide +kernel
theorem kit_int (t : Ty) : kitB "int" t.nm = some (decide (t = .int)) := by cases t <;> decide +kernel
theorem kit_str (t : Ty) : kitB "str" t.nm = some (decide (t = .str)) := by cases t <;> decide +kernel
theorem kit_tuple (t : Ty) : kitB "tuple" t.nm = some (decide (t = .tuple)) := by cases t <;> decide +kernel
theorem kit_list (t : Ty) : kitB "list" t.nm = some (decide (t = .list)) := by cases t <;> decide +kernel
theorem kit_dict (t : Ty) : kitB "dict" t.nm = some (decide (t = .dict)) := by cases t <;> decide +kernel
theorem tyx_tup {K : PySem.W.Frag} {H : Hp} {a : Addr} {xs : List V} (h : SqT K H a xs) : TyX K H (.ref a) (.type "tuple") := by
  rcases h with (h | ⟨u, h⟩) | ⟨o, its, n, h1, h2, _⟩
  · exact .base (.tup h)
  · exact .fTuple h
  · exact .kTuple h1 h2
theorem isA_ok {G : Gx} {ρ : List Addr} {h : Hh} {H : Hp} {v : V} {d : D} {t : Ty} {b : Bool} (hr : HR G ρ h H) (r : RD G ρ H v d) (e : isA h t d = some b) : ∃ T : Value, TyX G.K H v T ∧ PySem.W.kitOne G.K T (.type t.nm) = some b := by
  cases r with
  | non => cases e; exact ⟨_, .base .non, kit_ty (kit_none t)⟩
  | bl x => cases e; exact ⟨_, .base (.bl x), kit_ty (kit_bool t)⟩
  | int x => cases e; exact ⟨_, .base (.int x), kit_ty (kit_int t)⟩
  | str x => cases e; exact ⟨_, .base (.str x), kit_ty (kit_str t)⟩
  | tup hs _ => cases e; exact ⟨_, tyx_tup hs, kit_ty (kit_tuple t)⟩
  | ref q =>
    simp only [isA] at e
    split at e
    · rename_i xs g
      obtain ⟨vs, g1, _⟩ := hr.ok _ _ _ q g
      cases e
      exact ⟨_, .base (.lst g1), kit_ty (kit_list t)⟩
    · rename_i xs g
      obtain ⟨vs, g1, _⟩ := hr.ok _ _ _ q g
      cases e
      exact ⟨_, .base (.dK g1), kit_ty (kit_dict t)⟩
    · rename_i xs g
      obtain ⟨vs, g1, _⟩ := hr.ok _ _ _ q g
      cases e
      exact ⟨_, .base (.dT g1), kit_ty (kit_dict t)⟩
    · cases e
  | rl hs _ =>
    cases e
    rcases hs with ⟨u, z⟩ | ⟨o, its, n, z1, z2, _⟩
    · exact ⟨_, .base (.frz z), kit_ty (kit_list t)⟩
    · exact ⟨_, .kList z1 z2, kit_ty (kit_list t)⟩
  | cv n => cases e
theorem ie_isA {X : Cx} {G : Gx} {W : WX} {pos p p2 : Pos} {a : Expr} {da : Den} {x : Str} (t : Ty) (hK : G.K = X.K) (ha : PE X a (tI G W da)) (hm : X.mg "isinstance" = none) (hm2 : X.mg x = none) (hg : Gl X "isinstance" := by rfl) (hg2 : Gl X x := by rfl)
    (hv : bootBuiltins x = some (.type t.nm) := by decide +kernel) (hv2 : bootBuiltins "isinstance" = some (.builtin "isinstance") := by decide +kernel) (hn : x ≠ "__name__" := by decide) (hdb : (x == ("__debug__" : Str)) = false := by decide)
    (he : starEach [a, .Name x p2] X.env = (false, eval a X.env) :: starEach [.Name x p2] X.env := by rfl) (hpl : (backTo pos (starEach [.Name x p2] X.env)).any (·.1) = false := by rfl) :
    PE X (.Call (.Name "isinstance" p) [a, .Name x p2] [] pos) (tI G W (dIsA t da)) := by
  refine pe_imp (pe_callB call_isi hg hm hv2 (pa_cons ha (pa_cons (pe_bltn hg2 hm2 hv (v := .ty t.nm) rfl hn hdb) pa_nil) he) (by decide) (by decide) he hpl) fun σ H Q ⟨ρ, h, e, hr, er, p⟩ => ?_
  refine tI.intro hr er (Post.bind p) fun ρ1 h1 H1 x v l1 hr1 r1 p1 => ?_
  split at p1
  · rename_i b q
    obtain ⟨T, g1, g2⟩ := isA_ok hr1 r1 q
    exact ⟨_, _, T, _, b, rfl, .ty t.nm, hK ▸ g1, hK ▸ g2, post_here p1 hr1 (.bl b)⟩
  · exact p1.elim

/-! ### methods of lists -/
def MethS (X : Cx) (G : Gx) (id : String) (f : D → List D → Hh → Res D) : Prop := ∃ r : V → List V → Hp → VK → Prop, MtR X id r ∧
  ∀ ρ h H x dx xs ds (Q : VK) (W : XK), HR G ρ h H → RD G ρ H x dx → RDs G ρ H xs ds → Post G ρ H Q W (f dx ds h) → r x xs H Q
theorem isLst_ty {G : Gx} {ρ : List Addr} {h : Hh} {H : Hp} {v : V} {d : D} (hr : HR G ρ h H) (r : RD G ρ H v d) (e : isLst h d = true) : tyV G.K "list" v H := by
  unfold isLst at e
  obtain ⟨xs, g⟩ := Option.isSome_iff_exists.mp e
  obtain ⟨_, vs, rfl, g1, _⟩ := list_ok hr r g
  exact .inl ⟨rfl, vs, g1⟩
section
variable {X : Cx} {G : Gx} {W : WX} {apos cpos : Pos} {o e : Expr} {es : List Expr} {da : Den} {dr : ADen} {f : D → List D → Hh → Res D} {name : Str} {id : String}
theorem ie_bm (hK : G.K = X.K) (m : MethS X G id f) (slot : Slot "list" name id) (hty : typeOf (.builtin id) = pure (.type "method_descriptor")) (ho : PE X o (tI G W da)) (ha : PA X (e :: es) (tA G W dr))
    (hbase : attributeBase o name X.env (eval o X.env) = eval o X.env := by rfl)
    (hfew : ((backTo cpos (starEach (e :: es) X.env)).all (fun x => !x.1) && (backToKw cpos (keywordEach [] X.env)).all (fun x => x.1.isSome)
      && decide ((e :: es).length + ([] : List Keyword).length + (if ([] : List Keyword).isEmpty then 0 else 1) < 30)) = true := by rfl)
    (hline : (apos.endLine == cpos.line) = true := by rfl) (hs : starEach (e :: es) X.env = (false, eval e X.env) :: starEach es X.env := by rfl) (hplain : (backTo cpos (starEach es X.env)).any (·.1) = false := by rfl) :
    PE X (.Call (.Attribute o name apos) (e :: es) [] cpos) (tI G W (dMeth f da dr)) := by
  obtain ⟨r, h1, h2⟩ := m
  refine pe_imp (pe_bm PySem.F.plainAttrs_list slot hty h1 ho ha hbase hfew hline hs hplain) fun σ H Q ⟨ρ, h, e, hr, er, p⟩ => ?_
  refine tI.intro hr er (Post.bind p) fun ρ1 h1' H1 x v l1 hr1 r1 p1 => ?_
  split at p1
  · rename_i c
    refine ⟨hK ▸ isLst_ty hr1 r1 c, ?_⟩
    refine tA.intro hr1 (er.mono l1) (Post.bind p1) fun ρ2 h2' H2 xs vs l2 hr2 r2 p2 => ?_
    exact h2 ρ2 h2' H2 v x vs xs Q _ hr2 (r1.mono l2) r2 p2
  · exact p1.elim
theorem ie_bm0 (hK : G.K = X.K) (m : MethS X G id f) (slot : Slot "list" name id) (hty : typeOf (.builtin id) = pure (.type "method_descriptor")) (ho : PE X o (tI G W da))
    (hbase : attributeBase o name X.env (eval o X.env) = eval o X.env := by rfl) (hline : (apos.endLine == cpos.line) = true := by rfl) : PE X (.Call (.Attribute o name apos) [] [] cpos) (tI G W (dMeth f da aNil)) := by
  obtain ⟨r, h1, h2⟩ := m
  refine pe_imp (pe_bm0 PySem.F.plainAttrs_list slot hty h1 ho hbase hline) fun σ H Q ⟨ρ, h, e, hr, er, p⟩ => ?_
  refine tI.intro hr er (Post.bind p) fun ρ1 h1' H1 x v l1 hr1 r1 p1 => ?_
  split at p1
  · rename_i c
    exact ⟨hK ▸ isLst_ty hr1 r1 c, h2 ρ1 h1' H1 v x [] [] Q _ hr1 r1 .nil p1⟩
  · exact p1.elim
theorem ms_append : MethS X G "list.append" mAppend := ⟨_, mt_append, fun ρ h H x dx xs ds Q W hr rx r p => by
  cases rx with
  | ref q =>
    cases r with
    | nil => exact False.elim p
    | cons a r' =>
      cases r' with
      | cons _ _ => exact False.elim p
      | nil =>
        simp only [mAppend] at p
        split at p
        · rename_i ys g
          obtain ⟨vs, g1, g2⟩ := lst_of hr q g
          split at p
          · rename_i c
            rw [SLe, ← g2.length] at c
            exact ⟨_, vs, _, rfl, rfl, g1, c, post_set p hr q g g1 (g2.append (.one a)) .non⟩
          · exact p.elim
        · exact p.elim
  | _ => exact False.elim p⟩
theorem ms_extend : MethS X G "list.extend" mExtend := ⟨_, mt_extend, fun ρ h H x dx xs ds Q W hr rx r p => by
  cases rx with
  | ref q =>
    cases r with
    | nil => exact False.elim p
    | cons a r' =>
      cases r' with
      | cons _ _ => cases a <;> exact False.elim p
      | nil =>
        cases a with
        | ref q2 =>
          simp only [mExtend] at p
          split at p
          · rename_i ys zs g k
            obtain ⟨vs, g1, g2⟩ := lst_of hr q g
            obtain ⟨ws, k1, k2⟩ := lst_of hr q2 k
            split at p
            · rename_i c
              rw [SLe, ← g2.length, ← k2.length] at c
              exact ⟨_, _, vs, ws, rfl, rfl, g1, k1, c, post_set p hr q g g1 (g2.append k2) .non⟩
            · exact p.elim
          · exact p.elim
        | _ => exact False.elim p
  | _ => exact False.elim p⟩
theorem ms_pop : MethS X G "list.pop" mPop := ⟨_, mt_pop, fun ρ h H x dx xs ds Q W hr rx r p => by
  cases rx with
  | ref q =>
    cases r with
    | cons _ _ => exact False.elim p
    | nil =>
      simp only [mPop] at p
      split at p
      · rename_i ys g
        obtain ⟨vs, g1, g2⟩ := lst_of hr q g
        split at p
        · rename_i d e
          rw [List.getLast?_eq_getElem?] at e
          obtain ⟨v, e1, e2⟩ := g2.get e
          rw [← g2.length] at e1
          exact ⟨_, vs, v, rfl, rfl, g1, e1, post_set p hr q g g1 g2.dropLast e2⟩
        · exact p.elim
      · exact p.elim
  | _ => exact False.elim p⟩
theorem ms_popAt : MethS X G "list.pop" mPopAt := ⟨_, mt_popAt, fun ρ h H x dx xs ds Q W hr rx r p => by
  cases rx with
  | ref q =>
    cases r with
    | nil => exact False.elim p
    | cons a r' =>
      cases r' with
      | cons _ _ => cases a <;> exact False.elim p
      | nil =>
        cases a with
        | int i =>
          simp only [mPopAt] at p
          split at p
          · rename_i ys g
            obtain ⟨vs, g1, g2⟩ := lst_of hr q g
            split at p
            · rename_i c
              split at p
              · rename_i k e
                split at p
                · rename_i d e2
                  obtain ⟨v, e3, e4⟩ := g2.get e2
                  rw [← g2.length, ixOf_eq] at e
                  obtain ⟨f1, f2, f3, f4⟩ := ixN_seq e
                  have c1 := c.1
                  have c2 := c.2
                  exact ⟨_, vs, i, k, v, rfl, rfl, g1, by omega, by omega, f1, e3, post_set p hr q g g1 (g2.eraseIdx k) e4⟩
                · exact p.elim
              · exact p.elim
            · exact p.elim
          · exact p.elim
        | _ => exact False.elim p
  | _ => exact False.elim p⟩
end
end PI
/-! ## Pi5 -/
set_option Elab.async false
set_option linter.all false
set_option maxRecDepth 100000
set_option maxHeartbeats 1000000
set_option autoImplicit false
/-! PI, part 5: targets, statements, what is walked, for, while. -/
namespace PI
open PySem L2
/-! ### statements' readings -/
def FlOk (G : Gx) (ρ : List Addr) (H : Hp) (D : Ends) (W : WX) : Fl → Prop
  | .nx e => ∀ σ, ER G ρ H σ e → D.nx σ H
  | .rt d => ∀ v, RD G ρ H v d → D.rt v H
  | .bk e => ∀ σ, ER G ρ H σ e → D.bk σ H
  | .ct e => ∀ σ, ER G ρ H σ e → D.ct σ H
  | .xc c fs e => ∀ σ dd, ER G ρ H σ e → XR G ρ H dd fs → W (G.cm c) dd σ H
def PostS (G : Gx) (ρ : List Addr) (H : Hp) (D : Ends) (W : WX) : Res Fl → Prop
  | .bad => False
  | .exc _ _ _ => False
  | .ok f h => ∀ ρ' H', Le G ρ H ρ' H' → HR G ρ' h H' → FlOk G ρ' H' D W f
section
variable {α : Type} {G : Gx} {ρ ρ' : List Addr} {H H' : Hp} {W : WX} {D : Ends} {e : En} {σ : L2.St}
theorem PostS.le {r : Res Fl} (l : Le G ρ H ρ' H') (p : PostS G ρ H D W r) : PostS G ρ' H' D W r := by
  cases r with
  | bad => exact p
  | ok d h => exact fun ρ2 H2 l2 => p ρ2 H2 (l.trans l2)
  | exc c fs h => exact p
theorem PostS.sb {r : Res α} {k : α → Hh → Res Fl} (er : ER G ρ H σ e) (p : PostS G ρ H D W (r.sb e k)) : PostG G ρ H (fun ρ' h' H' a => PostS G ρ' H' D W (k a h')) (fun c d H' => W c d σ H') r := by
  cases r with
  | bad => exact p
  | ok a h => exact fun ρ' H' l _ => PostS.le l p
  | exc c fs h => exact fun ρ' dd H' l hr x => p ρ' H' l hr σ dd (er.mono l) x
theorem PostS.bind {r : Res Fl} {k : Fl → Hh → Res Fl} (p : PostS G ρ H D W (r.bind k)) : ∃ f h, r = .ok f h ∧ PostS G ρ H D W (k f h) := by
  cases r with
  | bad => exact p.elim
  | ok a h => exact ⟨a, h, rfl, p⟩
  | exc c fs h => exact p.elim
end
def tS (G : Gx) (W : WX) (s : SDen) : TS := fun D σ H => ∃ ρ h e, HR G ρ h H ∧ ER G ρ H σ e ∧ PostS G ρ H D W (s e h)
theorem ps_imp {X : Cx} {st : Stmt} {t t' : TS} (p : PS X st t) (h : ∀ D σ H, t' D σ H → t D σ H) : PS X st t' := ⟨fun pins s σ H D I q => p.run pins s σ H D I (h D σ H q)⟩
theorem pss_imp {X : Cx} {st : List Stmt} {t t' : TS} (p : PSs X st t) (h : ∀ D σ H, t' D σ H → t D σ H) : PSs X st t' := ⟨fun pins s σ H D I q => p.run pins s σ H D I (h D σ H q)⟩
section
variable {X : Cx} {G : Gx} {W : WX} {pos : Pos} {a c : Expr} {da : Den} {tc : TDen} {st : Stmt} {rest bd el : List Stmt} {s u : SDen}
theorem iss_nil : PSs X [] (tS G W sNil) := pss_imp pss_nil fun D σ H ⟨ρ, h, e, hr, er, p⟩ => p ρ H Le.refl hr σ er
theorem iss_one (hs : PS X st (tS G W s)) : PSs X [st] (tS G W s) := pss_one hs
theorem iss_cons (hs : PS X st (tS G W s)) (hu : PSs X rest (tS G W u)) : PSs X (st :: rest) (tS G W (sSeq s u)) := by
  refine pss_imp (pss_cons hs hu) fun D σ H ⟨ρ, h, e, hr, er, p⟩ => ⟨ρ, h, e, hr, er, ?_⟩
  obtain ⟨f, h1, q, p1⟩ := PostS.bind p
  rw [q]
  intro ρ1 H1 l1 hr1
  have p2 := PostS.le l1 p1
  cases f with
  | nx e1 => exact fun σ1 er1 => ⟨ρ1, h1, e1, hr1, er1, p2⟩
  | rt d => exact p2 ρ1 H1 Le.refl hr1
  | bk e1 => exact p2 ρ1 H1 Le.refl hr1
  | ct e1 => exact p2 ρ1 H1 Le.refl hr1
  | xc c fs e1 => exact p2 ρ1 H1 Le.refl hr1
theorem is_pass : PS X (.Pass pos) (tS G W sNil) := ps_imp ps_pass fun D σ H ⟨ρ, h, e, hr, er, p⟩ => p ρ H Le.refl hr σ er
theorem is_break : PS X (.Break pos) (tS G W sBreak) := ps_imp ps_break fun D σ H ⟨ρ, h, e, hr, er, p⟩ => p ρ H Le.refl hr σ er
theorem is_cont : PS X (.Continue pos) (tS G W sCont) := ps_imp ps_continue fun D σ H ⟨ρ, h, e, hr, er, p⟩ => p ρ H Le.refl hr σ er
theorem is_expr (ha : PE X a (tI G W da)) (hs : swapsWith a none pos.line X.env = pure false := by rfl) : PS X (.Expr a pos) (tS G W (sExpr da)) := by
  refine ps_imp (ps_expr ha hs) fun D σ H ⟨ρ, h, e, hr, er, p⟩ => ?_
  exact tI.intro hr er (PostS.sb er p) fun ρ1 h1 H1 x v l1 hr1 r1 p1 => p1 ρ1 H1 Le.refl hr1 σ (er.mono l1)
theorem is_ret (ha : PE X a (tI G W da)) : PS X (.Return (some a) pos) (tS G W (sRet da)) := by
  refine ps_imp (ps_ret ha) fun D σ H ⟨ρ, h, e, hr, er, p⟩ => ?_
  exact tI.intro hr er (PostS.sb er p) fun ρ1 h1 H1 x v l1 hr1 r1 p1 => p1 ρ1 H1 Le.refl hr1 v r1
theorem is_retN : PS X (.Return none pos) (tS G W sRetN) := ps_imp ps_retN fun D σ H ⟨ρ, h, e, hr, er, p⟩ => p ρ H Le.refl hr .non .non
theorem is_if (hc : PT X c (tB' G W tc)) (ha : PSs X bd (tS G W s)) (hb : PSs X el (tS G W u)) : PS X (.If c bd el pos) (tS G W (sIf tc s u)) := by
  refine ps_imp (ps_if hc ha hb) fun D σ H ⟨ρ, h, e, hr, er, p⟩ => ?_
  refine tB'.intro hr er (PostS.sb er p) fun ρ1 h1 H1 k l1 hr1 p1 => ?_
  cases k with
  | true => exact iteT ⟨ρ1, h1, e, hr1, er.mono l1, p1⟩
  | false => exact iteF ⟨ρ1, h1, e, hr1, er.mono l1, p1⟩
end

/-! ### targets -/
def PostE (G : Gx) (ρ : List Addr) (H : Hp) (Q : L2.St → Hp → Prop) (W : XK) : Res En → Prop
  | .bad => False
  | .ok e h => ∀ ρ' H' σ, Le G ρ H ρ' H' → HR G ρ' h H' → ER G ρ' H' σ e → Q σ H'
  | .exc c fs h => ∀ ρ' dd H', Le G ρ H ρ' H' → HR G ρ' h H' → XR G ρ' H' dd fs → W (G.cm c) dd H'
def tG (G : Gx) (W : WX) (g : GDen) : TG := fun v σ H Q => ∃ ρ h e d, HR G ρ h H ∧ ER G ρ H σ e ∧ RD G ρ H v d ∧ PostE G ρ H Q (fun c d H' => W c d σ H') (g d e h)
def tGs (G : Gx) (W : WX) (g : GsDen) : TGs := fun vs σ H Q => ∃ ρ h e ds, HR G ρ h H ∧ ER G ρ H σ e ∧ RDs G ρ H vs ds ∧ PostE G ρ H Q (fun c d H' => W c d σ H') (g ds e h)
theorem pg_imp {X : Cx} {e : Expr} {t t' : TG} (p : PG X e t) (h : ∀ v σ H Q, t' v σ H Q → t v σ H Q) : PG X e t' := ⟨fun pins s σ H v u Q I r q => p.run pins s σ H v u Q I r (h v σ H Q q)⟩
theorem pgs_imp {X : Cx} {es : List Expr} {t t' : TGs} (p : PGs X es t) (h : ∀ v σ H Q, t' v σ H Q → t v σ H Q) : PGs X es t' := ⟨fun pins s σ H v u Q I r q => p.run pins s σ H v u Q I r (h v σ H Q q)⟩
/-- no exception comes of storing names -/
def Calm (g : GDen) : Prop := ∀ d e h c fs h', g d e h ≠ .exc c fs h'
section
variable {X : Cx} {G : Gx} {W : WX} {pos : Pos} {a b : Expr} {es : List Expr} {da db : Den} {g : GDen} {gs : GsDen}
theorem PostE.le {ρ ρ' : List Addr} {H H' : Hp} {Q : L2.St → Hp → Prop} {W : XK} {r : Res En} (l : Le G ρ H ρ' H') (p : PostE G ρ H Q W r) : PostE G ρ' H' Q W r := by
  cases r with
  | bad => exact p
  | ok d h => exact fun ρ2 H2 σ l2 => p ρ2 H2 σ (l.trans l2)
  | exc c fs h => exact fun ρ2 dd H2 l2 => p ρ2 dd H2 (l.trans l2)
theorem ig_name (i : Nat) {x : Str} (hN : X.N.Nodup) (hi : X.N[i]? = some x := by rfl) (hx : Loc X.env.scope x := by first | exact Or.inl rfl | exact Or.inr rfl) (hf : X.fn x = true ∨ X.env.scope.names.lookup x = some .local := by first | exact .inl rfl | exact .inr rfl) :
    PG X (.Name x pos) (tG G W (gNm i)) :=
  pg_imp (pg_name hN hi hx hf) fun v σ H Q ⟨ρ, h, e, d, hr, er, r, p⟩ => p ρ H _ Le.refl hr (er.set r)
theorem igs_nil : PGs X [] (tGs G W gsNil) := pgs_imp pgs_nil fun vs σ H Q ⟨ρ, h, e, ds, hr, er, r, p⟩ => by
  cases r with
  | nil => exact ⟨rfl, p ρ H σ Le.refl hr er⟩
  | cons _ _ => exact False.elim p
/-- names alone: the exceptions are none, so the slots don't matter -/
theorem igs_cons (i : Nat) {x : Str} {p : Pos} (h1 : PG X (.Name x p) (tG G W (gNm i))) (h2 : PGs X es (tGs G W gs)) (hc : ∀ ds e h c fs h', gs ds e h ≠ .exc c fs h')
    (hs : (assignEach (.Name x p :: es) X.env).map (·.2) = assign (.Name x p) X.env :: (assignEach es X.env).map (·.2) := by rfl) : PGs X (.Name x p :: es) (tGs G W (gsCons (gNm i) gs)) := by
  refine pgs_imp (pgs_cons h1 h2 hs) fun vs σ H Q ⟨ρ, h, e, ds, hr, er, r, p⟩ => ?_
  cases r with
  | nil => exact False.elim p
  | @cons v vs d ds r1 r2 =>
    refine ⟨v, vs, rfl, ρ, h, e, d, hr, er, r1, ?_⟩
    have p : PostE G ρ H Q (fun c d H' => W c d σ H') (gs ds (e.set i (some d)) h) := p
    intro ρ1 H1 σ1 l1 hr1 er1
    refine ⟨ρ1, h, _, ds, hr1, er1, r2.mono l1, ?_⟩
    have p1 := PostE.le l1 p
    cases q : gs ds (e.set i (some d)) h with
    | bad => rw [q] at p1; exact p1
    | ok e2 h2 => rw [q] at p1; exact p1
    | exc c fs h2 => exact absurd q (hc _ _ _ _ _ _)
/-- any target ahead that raises nothing -/
theorem igs_consG {t : Expr} (h1 : PG X t (tG G W g)) (h2 : PGs X es (tGs G W gs)) (hg : Calm g) (hc : ∀ ds e h c fs h', gs ds e h ≠ .exc c fs h')
    (hs : (assignEach (t :: es) X.env).map (·.2) = assign t X.env :: (assignEach es X.env).map (·.2) := by rfl) : PGs X (t :: es) (tGs G W (gsCons g gs)) := by
  refine pgs_imp (pgs_cons h1 h2 hs) fun vs σ H Q ⟨ρ, h, e, ds, hr, er, r, p⟩ => ?_
  cases r with
  | nil => exact False.elim p
  | @cons v vs d ds r1 r2 =>
    refine ⟨v, vs, rfl, ρ, h, e, d, hr, er, r1, ?_⟩
    have p : PostE G ρ H Q (fun c d H' => W c d σ H') ((g d e h).bind fun e1 h1 => gs ds e1 h1) := p
    cases q : g d e h with
    | bad => rw [q] at p; exact p.elim
    | exc c fs h2 => exact absurd q (hg _ _ _ _ _ _)
    | ok e1 h1 =>
      rw [q] at p
      intro ρ1 H1 σ1 l1 hr1 er1
      refine ⟨ρ1, h1, e1, ds, hr1, er1, r2.mono l1, ?_⟩
      have p1 := PostE.le l1 p
      cases q2 : gs ds e1 h1 with
      | bad => rw [show (Res.ok e1 h1).bind (fun e1 h1 => gs ds e1 h1) = gs ds e1 h1 from rfl, q2] at p1; exact p1
      | ok e2 h2 => rw [show (Res.ok e1 h1).bind (fun e1 h1 => gs ds e1 h1) = gs ds e1 h1 from rfl, q2] at p1; exact p1
      | exc c fs h2 => exact absurd q2 (hc _ _ _ _ _ _)
theorem calm_name {i : Nat} : Calm (gNm i) := fun d e h c fs h' q => nomatch q
theorem calm_tup {n : Nat} (hc : ∀ ds e h c fs h', gs ds e h ≠ .exc c fs h') : Calm (gTp n gs) := fun d e h c fs h' => by
  cases d with
  | tup ds =>
    show (if ds.length = n then gs ds e h else .bad) ≠ _
    split
    · exact hc _ _ _ _ _ _
    · exact fun q => nomatch q
  | _ => exact fun q => nomatch q
theorem calm_consG (hg : Calm g) (hc : ∀ ds e h c fs h', gs ds e h ≠ .exc c fs h') : ∀ ds e h c fs h', gsCons g gs ds e h ≠ .exc c fs h' := fun ds e h c fs h' => by
  cases ds with
  | nil => exact fun q => nomatch q
  | cons d ds =>
    show (g d e h).bind _ ≠ _
    cases q : g d e h with
    | bad => exact fun q => nomatch q
    | exc _ _ _ => exact absurd q (hg _ _ _ _ _ _)
    | ok e1 h1 => exact hc _ _ _ _ _ _
theorem calm_nil : ∀ ds e h c fs h', gsNil ds e h ≠ .exc c fs h' := fun ds e h c fs h' => by
  cases ds <;> exact fun q => nomatch q
theorem calm_cons {i : Nat} (hc : ∀ ds e h c fs h', gs ds e h ≠ .exc c fs h') : ∀ ds e h c fs h', gsCons (gNm i) gs ds e h ≠ .exc c fs h' := fun ds e h c fs h' => by
  cases ds with
  | nil => exact fun q => nomatch q
  | cons d ds => exact hc _ _ _ _ _ _
theorem ig_tup {k : Nat} (n : Nat) (hK : G.K = X.K) (hc : X.calm = true) (hg : PGs X es (tGs G W gs)) (hn : (assignEach es X.env).length = n := by rfl) (hst : (assignEach es X.env).findIdx? (·.1) = none := by rfl) : PG X (.Tuple es k pos) (tG G W (gTp n gs)) := by
  refine pg_imp (pg_tup hc hg hn hst) fun v σ H Q ⟨ρ, h, e, d, hr, er, r, p⟩ => ?_
  cases r with
  | tup hs rs =>
    simp only [gTp] at p
    split at p
    · rename_i c
      exact ⟨_, _, rfl, hK ▸ hs, by rw [rs.length]; exact c, ρ, h, e, _, hr, er, rs, p⟩
    · exact p.elim
  | _ => exact False.elim p
/-- xs[i] = .. -/
theorem ig_sub (ha : PE X a (tI G W da)) (hb : PE X b (tI G W db)) (hs : ∀ v, assign (.Subscript a b pos) X.env v = (do
      let ov ← holding [v] (eval a X.env)
      let iv ← holding [v, ov] (eval b X.env)
      standAt pos
      holding [v, ov, iv] (setItem ov iv v)
      release [v, ov, iv] []) := by intro _; rfl) : PG X (.Subscript a b pos) (tG G W (gSb da db)) := by
  refine pg_imp (pg_sub ha hb set_list hs) fun v σ H Q ⟨ρ, h, e, d, hr, er, r, p⟩ => ?_
  unfold gSb at p
  have p' : PostG G ρ H (fun ρ' h' H' x => PostE G ρ' H' Q (fun c d H' => W c d σ H') ((db e h').bind fun y h2 => (setAt x y d h2).bind fun _ h3 => .ok e h3)) (fun c d H' => W c d σ H') (da e h) := by
    cases q : da e h with
    | bad => rw [q] at p; exact p
    | ok x h1 => rw [q] at p; exact fun ρ' H' l _ => PostE.le l p
    | exc c fs h1 => rw [q] at p; exact p
  refine tI.intro hr er p' fun ρ1 h1 H1 x vx l1 hr1 r1 p1 => ?_
  have p1' : PostG G ρ1 H1 (fun ρ' h' H' y => PostE G ρ' H' Q (fun c d H' => W c d σ H') ((setAt x y d h').bind fun _ h3 => .ok e h3)) (fun c d H' => W c d σ H') (db e h1) := by
    cases q : db e h1 with
    | bad => rw [q] at p1; exact p1
    | ok x h1 => rw [q] at p1; exact fun ρ' H' l _ => PostE.le l p1
    | exc c fs h1 => rw [q] at p1; exact p1
  refine tI.intro hr1 (er.mono l1) p1' fun ρ2 h2 H2 y vy l2 hr2 r2 p2 => ?_
  have r1' := r1.mono l2
  cases r1' <;> first
    | exact False.elim p2
    | skip
  cases r2 <;> first
    | exact False.elim p2
    | skip
  rename_i o n q k
  simp only [setAt] at p2
  split at p2
  · rename_i xs g
    obtain ⟨vs, g1, g2⟩ := lst_of hr2 q g
    split at p2
    · rename_i j e2
      rw [← g2.length, ixOf_eq] at e2
      have rd := (r.mono l1).mono l2
      refine ⟨_, vs, k, j, rfl, rfl, g1, e2, ?_⟩
      have lt := Le.set (G := G) (ho := .lst (vs.set j v)) (List.mem_of_getElem? q) g1 rfl
      exact p2 ρ2 _ σ lt (hr2.set q g g1 rfl ⟨_, upd_same, (RDs.set rd j g2).mono lt⟩) (((er.mono l1).mono l2).mono lt)
    · exact p2.elim
  · exact p2.elim
/-- target = value -/
theorem is_asg {tg : Expr} (ha : PE X a (tI G W da)) (hg : PG X tg (tG G W g)) (hs : swapsWithSole [tg] a pos.line X.env = pure false := by rfl) (hw : swappedStores [tg] a X.env = pure none := by rfl)
    (h1 : (assignEach [tg] X.env).map (·.2) = [assign tg X.env] := by rfl) : PS X (.Assign [tg] a pos) (tS G W (sAsg da g)) := by
  refine ps_imp (ps_asg ha hg hs hw h1) fun D σ H ⟨ρ, h, e, hr, er, p⟩ => ?_
  refine tI.intro hr er (PostS.sb er p) fun ρ1 h1 H1 x v l1 hr1 r1 p1 => ⟨ρ1, h1, e, x, hr1, er.mono l1, r1, ?_⟩
  cases q : g x e h1 with
  | bad => rw [q] at p1; exact p1
  | ok e2 h2 => rw [q] at p1; exact fun ρ' H' σ' l' hr' er' => p1 ρ' H' l' hr' σ' er'
  | exc c fs h2 => rw [q] at p1; exact fun ρ' dd H' l' hr' x => p1 ρ' H' l' hr' σ dd ((er.mono l1).mono l') x
/-- name = value -/
theorem is_set (i : Nat) {x : Str} {pos' : Pos} (hN : X.N.Nodup) (ha : PE X a (tI G W da)) (hi : X.N[i]? = some x := by rfl) (hx : Loc X.env.scope x := by first | exact Or.inl rfl | exact Or.inr rfl) (hs : swapsWith a (some (.Name x pos')) pos.line X.env = pure false := by rfl)
    (hf : X.fn x = true ∨ X.env.scope.names.lookup x = some .local := by first | exact .inl rfl | exact .inr rfl) : PS X (.Assign [.Name x pos'] a pos) (tS G W (sAsg da (gNm i))) := by
  refine ps_imp (ps_set hN hi hx ha hs hf) fun D σ H ⟨ρ, h, e, hr, er, p⟩ => ?_
  exact tI.intro hr er (PostS.sb er p) fun ρ1 h1 H1 x v l1 hr1 r1 p1 => p1 ρ1 H1 Le.refl hr1 _ ((er.mono l1).set r1)
/-- a, b = x, y -/
theorem is_par (i j : Nat) {x y : Str} {px py pt : Pos} {kt k2 : Nat} {pt2 : Pos} (hc : X.calm = true) (hN : X.N.Nodup) (ha : PE X a (tI G W da)) (hb : PE X b (tI G W db)) (hi : X.N[i]? = some x := by rfl) (hj : X.N[j]? = some y := by rfl) (hij : i ≠ j := by decide)
    (hx : X.env.scope.names.lookup x = some .local := by rfl) (hy : X.env.scope.names.lookup y = some .local := by rfl) (hst : starEach [a, b] X.env = (false, eval a X.env) :: starEach [b] X.env := by rfl) (hst2 : starEach [b] X.env = (false, eval b X.env) :: starEach [] X.env := by rfl)
    (hw : swappedStores [.Tuple [.Name x px, .Name y py] kt pt] (.Tuple [a, b] k2 pt2) X.env = pure (some [x, y]) := by rfl)
    (hs : swapsWithSole [.Tuple [.Name x px, .Name y py] kt pt] (.Tuple [a, b] k2 pt2) pos.line X.env = pure false := by rfl) :
    PS X (.Assign [.Tuple [.Name x px, .Name y py] kt pt] (.Tuple [a, b] k2 pt2) pos) (tS G W (sPar i j da db)) := by
  refine ps_imp (ps_par hc hN hi hj hij hx hy (pa_cons ha (pa_cons hb pa_nil hst2) hst) hw hs) fun D σ H ⟨ρ, h, e, hr, er, p⟩ => ?_
  refine tI.intro hr er (PostS.sb er p) fun ρ1 h1 H1 d v l1 hr1 r1 p1 => ?_
  refine tI.intro hr1 (er.mono l1) (PostS.sb (er.mono l1) p1) fun ρ2 h2 H2 d2 w l2 hr2 r2 p2 => ?_
  exact ⟨v, w, rfl, p2 ρ2 H2 Le.refl hr2 _ ((((er.mono l1).mono l2).set (r1.mono l2)).set r2)⟩
/-- x op= a, by what the operator does in place -/
def IpS (X : Cx) (G : Gx) (op : Operator) (f : D → D → Hh → Res D) : Prop := ∃ r : TIp, PIp X op r ∧
  ∀ ρ h H x y dx dy (Q : VK) (W : XK), HR G ρ h H → RD G ρ H x dx → RD G ρ H y dy → Post G ρ H Q W (f dx dy h) → r x y H Q
theorem ip_sub' : IpS X G .Sub oSub := ⟨_, ip_sub, fun ρ h H x y dx dy Q W hr rx ry p => by
  cases rx <;> cases ry <;> first
    | exact False.elim p
    | exact ⟨_, _, rfl, rfl, post_here p hr (.int _)⟩⟩
theorem ip_add' : IpS X G .Add oIadd := ⟨_, (fun pins s σ H x y v u Q I rx ry q => (iop_add.or (iop_add_str.or iop_ext)) pins s σ H x y v u Q I rx ry q), fun ρ h H x y dx dy Q W hr rx ry p => by
  cases rx <;> cases ry <;> first
    | exact False.elim p
    | exact .inl ⟨_, _, rfl, rfl, post_here p hr (.int _)⟩
    | skip
  · rename_i a b
    simp only [oIadd] at p
    split at p
    · rename_i c
      rw [SLe] at c
      exact .inr (.inl ⟨a, b, rfl, rfl, by rw [len_str, len_str]; exact c, post_here p hr (rd_str (TL.tl_append a b))⟩)
    · exact p.elim
  · rename_i a m ea b n eb
    simp only [oIadd] at p
    split at p
    · rename_i xs ys q1 q2
      obtain ⟨vs, h1, r1⟩ := lst_of hr ea q1
      obtain ⟨ws, h2, r2⟩ := lst_of hr eb q2
      split at p
      · rename_i c
        rw [SLe, ← r1.length, ← r2.length] at c
        exact .inr (.inr ⟨a, b, vs, ws, rfl, rfl, h1, h2, c, post_set p hr ea q1 h1 (r1.append r2) (.ref ea)⟩)
      · exact p.elim
    · exact p.elim⟩
theorem is_aug (i : Nat) {x : Str} {op : Operator} {f : D → D → Hh → Res D} {pos' : Pos} (o : IpS X G op f) (hN : X.N.Nodup) (ha : PE X a (tI G W da)) (hi : X.N[i]? = some x := by rfl) (hx : Loc X.env.scope x := by first | exact Or.inl rfl | exact Or.inr rfl)
    (hf : X.fn x = true ∨ X.env.scope.names.lookup x = some .local := by first | exact .inl rfl | exact .inr rfl) : PS X (.AugAssign (.Name x pos') op a pos) (tS G W (sAug i f da)) := by
  obtain ⟨r, h1, h2⟩ := o
  refine ps_imp (ps_aug hN hi hx ha h1 hf) fun D σ H ⟨ρ, h, e, hr, er, p⟩ => ?_
  simp only [sAug] at p
  split at p
  · rename_i d q
    obtain ⟨v, g1, g2⟩ := er.at_ i d q
    refine ⟨v, g1, ?_⟩
    refine tI.intro hr er (PostS.sb er p) fun ρ1 h1' H1 y w l1 hr1 r1 p1 => ?_
    have p1' := PostS.sb (er.mono l1) p1
    refine h2 ρ1 h1' H1 v w d y _ (fun c d H' => W c d σ H') hr1 (g2.mono l1) r1 ?_
    cases q2 : f d y h1' with
    | bad => rw [q2] at p1'; exact p1'
    | ok z h2' => rw [q2] at p1'; exact fun ρ2 z' H2 l2 hr2 r2 => p1' ρ2 H2 l2 hr2 ρ2 H2 Le.refl hr2 _ (((er.mono l1).mono l2).set r2)
    | exc c fs h2' => rw [q2] at p1'; exact p1'
  · exact p.elim
end

/-! ### what is walked -/
/-- J gives k's items, one after the other, while k stands still -/
def ItOk (G : Gx) (ρ0 : List Addr) (H0 : Hp) (k : Wk) (J : It) : Prop := ∀ ρ h H, Le G ρ0 H0 ρ H → HR G ρ h H → k.still h = true → ∀ i : Nat,
  (∀ d, k.items[i]? = some d → J.go i H ∧ ∀ x H', J.yld i H x H' → ∃ ρ', Le G ρ H ρ' H' ∧ HR G ρ' h H' ∧ RD G ρ' H' x d) ∧ (k.items.length ≤ i → J.stop i H)
def PostW (G : Gx) (ρ : List Addr) (H : Hp) (R : It → Hp → Prop) (W : XK) : Res Wk → Prop
  | .bad => False
  | .ok k h => ∀ ρ' H' J, Le G ρ H ρ' H' → HR G ρ' h H' → ItOk G ρ' H' k J → R J H'
  | .exc c fs h => ∀ ρ' dd H', Le G ρ H ρ' H' → HR G ρ' h H' → XR G ρ' H' dd fs → W (G.cm c) dd H'
def tW (G : Gx) (W : WX) (w : WDen) : TI := fun σ H R => ∃ ρ h e, HR G ρ h H ∧ ER G ρ H σ e ∧ PostW G ρ H R (fun c d H' => W c d σ H') (w e h)
theorem pi_imp {X : Cx} {tg e : Expr} {t t' : TI} (p : PI X tg e t) (h : ∀ σ H R, t' σ H R → t σ H R) : PI X tg e t' := ⟨fun pins s σ H R I q => p.run pins s σ H R I (h σ H R q)⟩
theorem PostW.le {G : Gx} {ρ ρ' : List Addr} {H H' : Hp} {R : It → Hp → Prop} {W : XK} {r : Res Wk} (l : Le G ρ H ρ' H') (p : PostW G ρ H R W r) : PostW G ρ' H' R W r := by
  cases r with
  | bad => exact p
  | ok d h => exact fun ρ2 H2 J l2 => p ρ2 H2 J (l.trans l2)
  | exc c fs h => exact fun ρ2 dd H2 l2 => p ρ2 dd H2 (l.trans l2)
theorem PostW.bind {α : Type} {G : Gx} {ρ : List Addr} {H : Hp} {R : It → Hp → Prop} {W : XK} {r : Res α} {k : α → Hh → Res Wk} (p : PostW G ρ H R W (r.bind k)) : PostG G ρ H (fun ρ' h' H' a => PostW G ρ' H' R W (k a h')) W r := by
  cases r with
  | bad => exact p
  | ok a h => exact fun ρ' H' l _ => PostW.le l p
  | exc c fs h => exact p
/-- a list or a tuple, whichever comes -/
def iSeq (K : PySem.W.Frag) (tl : TE) : TI := fun σ H R => tl σ H fun x H1 => ∃ a, x = .ref a ∧ (((∃ xs, SqL K H1 a xs) ∧ R (Itl K a) H1) ∨ ((∃ xs, SqT K H1 a xs) ∧ R (Itt K a) H1))
open PySem.Spec PyProof.Rows in
theorem pi_seq {X : Cx} {tg l : Expr} {tl : TE} (hl : PE X l tl) : PI X tg l (iSeq X.K tl) := by
  refine ⟨fun pins s σ H R I h => ?_⟩
  refine thn (hl.run pins s σ H _ I h) fun v s1 ⟨x, H1, I1, r1, q1⟩ => ?_
  obtain ⟨a, e, q⟩ := q1
  subst e
  cases r1
  rcases q with ⟨⟨xs, hq⟩, q⟩ | ⟨⟨xs, hq⟩, q⟩
  · obtain ⟨its, rv, p, hz⟩ := I1.list hq
    refine wpAny_pyIter_list p.isList ?_
    refine ⟨s1.heap.objs.size, [s1.heap.objs.size], _, _, H1, rfl, I1.kept (t' := s1.toks) fun b o e => Heap.get?_push_of_some _ e, turn_list a _, ⟨_, Heap.get?_push_size _ rfl, rfl, rfl⟩, fun b hb => ?_, q⟩
    have e : b = s1.heap.objs.size := by simpa using hb
    subst e
    exact I1.fpOk (Nat.le_refl _) (I1.hok.fresh (Nat.le_refl _))
  · obtain ⟨its, rv, p, hz⟩ := I1.tuple hq
    refine wpAny_pyIter_tuple (show s1.heap.IsTuple a its.toArray from p) ?_
    refine ⟨s1.heap.objs.size, [s1.heap.objs.size], _, _, H1, rfl, I1.kept (t' := s1.toks) fun b o e => Heap.get?_push_of_some _ e, turn_tuple a _, ⟨_, Heap.get?_push_size _ rfl, rfl, rfl⟩, fun b hb => ?_, q⟩
    have e : b = s1.heap.objs.size := by simpa using hb
    subst e
    exact I1.fpOk (Nat.le_refl _) (I1.hok.fresh (Nat.le_refl _))
end PI
/-! ## Pi6 -/
set_option Elab.async false
set_option linter.all false
set_option maxRecDepth 100000
set_option maxHeartbeats 1000000
set_option autoImplicit false
/-! PI, part 6: for, while, comprehensions, calls, defs. -/
namespace PI
open PySem L2
section
variable {G : Gx} {ρ : List Addr} {H : Hp} {h : Hh} {σ : L2.St} {e : En} {W : WX}
theorem tW.intro {w : WDen} {R : It → Hp → Prop} {F : List Addr → Hh → Hp → Wk → Prop} (hr : HR G ρ h H) (er : ER G ρ H σ e) (p : PostG G ρ H F (fun c d H' => W c d σ H') (w e h))
    (f : ∀ ρ' h' H' k J, Le G ρ H ρ' H' → HR G ρ' h' H' → ItOk G ρ' H' k J → F ρ' h' H' k → R J H') : tW G W w σ H R := by
  refine ⟨ρ, h, e, hr, er, ?_⟩
  cases q : w e h with
  | bad => rw [q] at p; exact p
  | ok d h' => rw [q] at p; exact fun ρ' H' J l hr' it => f ρ' h' H' d J l hr' it (p ρ' H' l hr')
  | exc c fs h' => rw [q] at p; exact p
end
theorem tup_items {G : Gx} {ρ0 : List Addr} {H0 : Hp} {K : PySem.W.Frag} {a : Addr} {vs : List V} {ds : List D} (hK : G.K = K) (hs : SqT G.K H0 a vs) (r : RDs G ρ0 H0 vs ds) (uniq : ∀ ρ H, Le G ρ0 H0 ρ H → ∀ xs, SqT K H a xs → SqT K H a vs → True) :
    ItOk G ρ0 H0 (.its ds) (Itt K a) := by
  intro ρ h H l hr _ i
  subst hK
  have hs' := l.tup _ _ hs
  have r' := r.mono l
  refine ⟨fun d e => ?_, fun hi => ⟨vs, hs', by rw [r.length]; exact hi⟩⟩
  obtain ⟨v, g1, g2⟩ := r'.get e
  refine ⟨⟨vs, v, hs', g1⟩, fun x H' hy => ?_⟩
  obtain ⟨rfl, hy⟩ := hy
  have e2 := hy vs hs'
  rw [g1] at e2
  cases e2
  exact ⟨ρ, Le.refl, hr, g2⟩
section
variable {X : Cx} {G : Gx} {W : WX} {pos p : Pos} {tg a b : Expr} {da db : Den}
theorem lst_items {ρ0 : List Addr} {H0 : Hp} {n : Nat} {a : Addr} {ds : List D} (q : ρ0[n]? = some a) : ItOk G ρ0 H0 (.lst n ds) (Itl G.K a) := by
  intro ρ h H l hr st i
  have q' := l.at q
  have e : lstAt h n = some ds := by
    simp only [Wk.still] at st
    split at st
    · rename_i ys g
      rw [g, D.sameL_eq _ _ st]
    · cases st
  obtain ⟨vs, g1, g2⟩ := sql_of hr q' e
  refine ⟨fun d e => ?_, fun hi => ⟨vs, SqL.of g1, by rw [g2.length]; exact hi⟩⟩
  obtain ⟨v, e1, e2⟩ := g2.get e
  refine ⟨⟨vs, v, SqL.of g1, e1⟩, fun x H' hy => ?_⟩
  obtain ⟨rfl, hy⟩ := hy
  have e3 := hy vs (SqL.of g1)
  rw [e1] at e3
  cases e3
  exact ⟨ρ, Le.refl, hr, e2⟩
theorem rl_items {ρ0 : List Addr} {H0 : Hp} {a : Addr} {vs : List V} {ds : List D} (hs : SqR G.K H0 a vs) (r : RDs G ρ0 H0 vs ds) : ItOk G ρ0 H0 (.its ds) (Itl G.K a) := by
  intro ρ h H l hr _ i
  have hs' := (l.rol _ _ hs).sq
  have r' := r.mono l
  refine ⟨fun d e => ?_, fun hi => ⟨vs, hs', by rw [r.length]; exact hi⟩⟩
  obtain ⟨v, g1, g2⟩ := r'.get e
  refine ⟨⟨vs, v, hs', g1⟩, fun x H' hy => ?_⟩
  obtain ⟨rfl, hy⟩ := hy
  have e2 := hy vs hs'
  rw [g1] at e2
  cases e2
  exact ⟨ρ, Le.refl, hr, g2⟩
theorem rng_items {ρ0 : List Addr} {H0 : Hp} {lo : Int} {n : Nat} : ItOk G ρ0 H0 (.rng lo n) (Itr lo n) := by
  intro ρ h H l hr _ i
  refine ⟨fun d e => ?_, fun hi => by
    show n ≤ i
    simpa [Wk.items] using hi⟩
  simp only [Wk.items] at e
  rw [List.getElem?_map] at e
  by_cases hi : i < n
  · rw [List.getElem?_range hi] at e
    cases e
    refine ⟨hi, fun x H' hy => ?_⟩
    obtain ⟨rfl, rfl⟩ := hy
    exact ⟨ρ, Le.refl, hr, .int _⟩
  · rw [List.getElem?_eq_none (by simpa using hi)] at e
    cases e
theorem iw_seq (hK : G.K = X.K) (ha : PE X a (tI G W da)) : PI X tg a (tW G W (wSeq da)) := by
  refine pi_imp (pi_seq ha) fun σ H R ⟨ρ, h, e, hr, er, p⟩ => ?_
  refine tI.intro hr er (PostW.bind p) fun ρ1 h1 H1 x v l1 hr1 r1 p1 => ?_
  cases r1 with
  | tup hs rs => exact ⟨_, rfl, .inr ⟨⟨_, hK ▸ hs⟩, p1 ρ1 H1 _ Le.refl hr1 (tup_items hK hs rs fun _ _ _ _ _ _ => trivial)⟩⟩
  | rl hs rs => exact ⟨_, rfl, .inl ⟨⟨_, hK ▸ hs.sq⟩, p1 ρ1 H1 _ Le.refl hr1 (hK ▸ rl_items hs rs)⟩⟩
  | ref q =>
    simp only at p1
    split at p1
    · rename_i xs g
      obtain ⟨vs, g1, g2⟩ := sql_of hr1 q g
      exact ⟨_, rfl, .inl ⟨⟨_, SqL.of g1⟩, p1 ρ1 H1 _ Le.refl hr1 (hK ▸ lst_items q)⟩⟩
    · exact p1.elim
  | _ => exact False.elim p1
theorem iw_str (ha : PE X a (tI G W da)) : PI X tg a (tW G W (wStr da)) := by
  refine pi_imp (pi_str ha) fun σ H R ⟨ρ, h, e, hr, er, p⟩ => ?_
  refine tI.intro hr er (PostW.bind p) fun ρ1 h1 H1 x v l1 hr1 r1 p1 => ?_
  cases x with
  | str s =>
    obtain ⟨z, rfl, rfl⟩ := rd_str_inv r1
    refine ⟨z, rfl, p1 ρ1 H1 _ Le.refl hr1 ?_⟩
    intro ρ h H l hr _ i
    refine ⟨fun d e => ?_, fun hi => by
      show z.cps.size ≤ i
      simpa [Wk.items] using hi⟩
    simp only [Wk.items] at e
    rw [List.getElem?_map] at e
    cases q : z.cps.toList[i]? with
    | none => rw [q] at e; cases e
    | some c =>
      rw [q] at e
      cases e
      have q' : z.cps[i]? = some c := by simpa using q
      refine ⟨(Array.getElem?_eq_some_iff.mp q').1, fun x H' hy => ?_⟩
      obtain ⟨rfl, c', e1, rfl⟩ := hy
      rw [q'] at e1
      cases e1
      exact ⟨ρ, Le.refl, hr, rd_str rfl⟩
  | _ => exact False.elim p1
theorem iw_rng1 (ha : PE X a (tI G W da)) (hm : X.mg "range" = none) (hg : Gl X "range" := by rfl) (he : starEach [a] X.env = (false, eval a X.env) :: starEach [] X.env := by rfl) (hs : starEach [a] X.env = [(false, eval a X.env)] := by rfl) : PI X tg (.Call (.Name "range" p) [a] [] pos) (tW G W (wRng1 da)) := by
  refine pi_imp (pi_range1 hg hm (pa_cons ha pa_nil he) hs) fun σ H R ⟨ρ, h, e, hr, er, p⟩ => ?_
  refine tI.intro hr er (PostW.bind p) fun ρ1 h1 H1 x v l1 hr1 r1 p1 => ?_
  cases r1 <;> first
    | exact False.elim p1
    | skip
  rename_i j
  simp only at p1
  split at p1
  · rename_i c
    exact ⟨j, rfl, c.1, c.2, p1 ρ1 H1 _ Le.refl hr1 rng_items⟩
  · exact p1.elim
theorem iw_rng2 (ha : PE X a (tI G W da)) (hb : PE X b (tI G W db)) (hm : X.mg "range" = none) (hg : Gl X "range" := by rfl) (he : starEach [a, b] X.env = (false, eval a X.env) :: starEach [b] X.env := by rfl) (he2 : starEach [b] X.env = (false, eval b X.env) :: starEach [] X.env := by rfl)
    (hs : starEach [a, b] X.env = [(false, eval a X.env), (false, eval b X.env)] := by rfl) (hs2 : starEach [b] X.env = [(false, eval b X.env)] := by rfl) : PI X tg (.Call (.Name "range" p) [a, b] [] pos) (tW G W (wRng2 da db)) := by
  refine pi_imp (pi_range2 hg hm (pa_cons ha (pa_cons hb pa_nil he2) he) hs hs2) fun σ H R ⟨ρ, h, e, hr, er, p⟩ => ?_
  refine tI.intro hr er (PostW.bind p) fun ρ1 h1 H1 x v l1 hr1 r1 p1 => ?_
  refine tI.intro hr1 (er.mono l1) (PostW.bind p1) fun ρ2 h2 H2 y w l2 hr2 r2 p2 => ?_
  cases r1 <;> first
    | exact False.elim p2
    | skip
  cases r2 <;> first
    | exact False.elim p2
    | skip
  rename_i i j
  simp only at p2
  split at p2
  · rename_i c
    exact ⟨i, j, rfl, ⟨c.1.1, c.1.2, c.2.1, c.2.2⟩, p2 ρ2 H2 _ Le.refl hr2 rng_items⟩
  · exact p2.elim
/-! ### for -/
theorem is_for {iter : Expr} {body : List Stmt} {w : WDen} {g : GDen} {s : SDen} (po : PassesOwn (model X.prog X.w) X.A X.env X.xe) (hc : X.calm = true) (hi : PI X tg iter (tW G W w)) (hg : PG X tg (tG G W g)) (hb : PSs X body (tS G W s))
    (hs : ∀ x, foldedSetIterable iter X.env x = pure x := by intro _; rfl) : PS X (.For tg iter body [] pos) (tS G W (sFor w g s)) := by
  refine ps_imp (ps_for po hc hi hg hb hs) fun D σ H ⟨ρ, h, e, hr, er, p⟩ => ?_
  refine tW.intro hr er (PostS.sb er p) fun ρ1 h1 H1 k J l1 hr1 it p1 => ?_
  refine ⟨fun i m σ H => ∃ ρ h e, Le G ρ1 H1 ρ H ∧ HR G ρ h H ∧ ER G ρ H σ e ∧ i ≤ k.items.length ∧ m = k.items.length - i ∧ PostS G ρ H D W (forGo k g s (k.items.drop i) e h),
    ⟨_, ρ1, h1, e, Le.refl, hr1, er.mono l1, Nat.zero_le _, rfl, by simpa using p1⟩, fun i m σ H hw => ?_⟩
  obtain ⟨ρ2, h2, e2, l2, hr2, er2, hi, rfl, p2⟩ := hw
  by_cases hlt : i < k.items.length
  · rw [List.drop_eq_getElem_cons hlt] at p2
    simp only [forGo] at p2
    split at p2
    · rename_i st
      have ok := it ρ2 h2 H l2 hr2 st i
      obtain ⟨go, yl⟩ := ok.1 _ (List.getElem?_eq_getElem hlt)
      refine .inr ⟨go, fun σ' H' => ∃ ρ h e, Le G ρ1 H1 ρ H' ∧ HR G ρ h H' ∧ ER G ρ H' σ' e ∧ PostS G ρ H' D W (forGo k g s (k.items.drop (i + 1)) e h), fun σ' H' hN => ?_, fun x H' hy => ?_⟩
      · obtain ⟨ρ3, h3, e3, a1, a2, a3, a4⟩ := hN
        exact ⟨k.items.length - (i + 1), by omega, ρ3, h3, e3, a1, a2, a3, hlt, rfl, a4⟩
      · obtain ⟨ρ3, l3, hr3, rd⟩ := yl x H' hy
        have p3 := PostS.le l3 p2
        refine ⟨ρ3, h2, e2, _, hr3, er2.mono l3, rd, ?_⟩
        cases q : g k.items[i] e2 h2 with
        | bad => rw [q] at p3; exact p3
        | exc c fs h4 => rw [q] at p3; exact fun ρ' dd H' l hr x => p3 ρ' H' l hr σ dd ((er2.mono l3).mono l) x
        | ok e4 h4 =>
          rw [q] at p3
          obtain ⟨f, h5, q5, p5⟩ := PostS.bind (show PostS G ρ3 H' D W ((s e4 h4).bind _) from p3)
          intro ρ4 H4 σ4 l4 hr4 er4
          refine ⟨ρ4, h4, e4, hr4, er4, ?_⟩
          rw [q5]
          intro ρ5 H5 l5 hr5
          have p6 := PostS.le (l4.trans l5) p5
          have lall : Le G ρ1 H1 ρ5 H5 := ((l2.trans l3).trans l4).trans l5
          cases f with
          | nx e6 => exact fun σ6 er6 => ⟨ρ5, h5, e6, lall, hr5, er6, p6⟩
          | ct e6 => exact fun σ6 er6 => ⟨ρ5, h5, e6, lall, hr5, er6, p6⟩
          | bk e6 => exact p6 ρ5 H5 Le.refl hr5
          | rt d => exact p6 ρ5 H5 Le.refl hr5
          | xc c fs e6 => exact p6 ρ5 H5 Le.refl hr5
    · exact p2.elim
  · have hn : i = k.items.length := by omega
    subst hn
    rw [List.drop_length] at p2
    simp only [forGo] at p2
    split at p2
    · rename_i st
      exact .inl ⟨(it ρ2 h2 H l2 hr2 st _).2 (Nat.le_refl _), p2 ρ2 H Le.refl hr2 σ er2⟩
    · exact p2.elim
/-! ### while -/
theorem is_while {c : Expr} {body : List Stmt} {t : TDen} {s : SDen} (po : PassesOwn (model X.prog X.w) X.A X.env X.xe) (hc : PT X c (tB' G W t)) (hb : PSs X body (tS G W s)) : PS X (.While c body [] pos) (tS G W (sWhile t s)) := by
  refine ps_imp (ps_while po hc hb) fun D σ H ⟨ρ, h, e, hr, er, p⟩ => ?_
  refine ⟨fun n σ H => ∃ ρ h e, HR G ρ h H ∧ ER G ρ H σ e ∧ PostS G ρ H D W (whGo t s n e h), ⟨_, ρ, h, e, hr, er, p⟩, fun n σ H hw => ?_⟩
  obtain ⟨ρ1, h1, e1, hr1, er1, p1⟩ := hw
  cases n with
  | zero => exact False.elim p1
  | succ n =>
    refine tB'.intro hr1 er1 (PostS.sb er1 p1) fun ρ2 h2 H2 k l2 hr2 p2 => ?_
    cases k with
    | false =>
      rw [if_neg Bool.false_ne_true] at p2
      exact iteF (p2 ρ2 H2 Le.refl hr2 σ (er1.mono l2))
    | true =>
      rw [if_pos rfl] at p2
      obtain ⟨f, h5, q5, p5⟩ := PostS.bind p2
      refine iteT ⟨fun σ' H' => ∃ ρ h e, HR G ρ h H' ∧ ER G ρ H' σ' e ∧ PostS G ρ H' D W (whGo t s n e h), fun σ' H' hN => ⟨n, Nat.lt_succ_self n, hN⟩, ρ2, h2, e1, hr2, er1.mono l2, ?_⟩
      rw [q5]
      intro ρ5 H5 l5 hr5
      have p6 := PostS.le l5 p5
      cases f with
      | nx e6 => exact fun σ6 er6 => ⟨ρ5, h5, e6, hr5, er6, p6⟩
      | ct e6 => exact fun σ6 er6 => ⟨ρ5, h5, e6, hr5, er6, p6⟩
      | bk e6 => exact p6 ρ5 H5 Le.refl hr5
      | rt d => exact p6 ρ5 H5 Le.refl hr5
      | xc c fs e6 => exact p6 ρ5 H5 Le.refl hr5
end

/-! ### comprehensions -/
section
variable {G : Gx} {ρ : List Addr} {H : Hp} {σ : L2.St} {e : En}
theorem ER.forget (x : ER G ρ H σ e) : ∀ vs : List Nat, ER G ρ H (wipe σ vs) (PI.forget e vs)
  | [] => x
  | v :: vs => (ER.forget x vs).unset
end
/-- a target's raw reading, over a comprehension's own slots -/
def tGv (G : Gx) (vs : List Nat) (g : GDen) (t : TG) : Prop := ∀ (v : V) (σ : L2.St) (H : Hp) (Q : L2.St → Hp → Prop) (ρ : List Addr) (h : Hh) (e e1 : En) (d : D) (h1 : Hh), HR G ρ h H → ER G ρ H (wipe σ vs) (PI.forget e vs) → RD G ρ H v d →
  g d (PI.forget e vs) h = .ok e1 h1 → (∀ σ2, HR G ρ h1 H → ER G ρ H σ2 e1 → wipe σ2 vs = wipe σ vs → Q σ2 H) → t v (wipe σ vs) H Q
theorem gv_name (G : Gx) (i : Nat) : tGv G [i] (gNm i) (gName i) := fun v σ H Q ρ h e e1 d h1 hr er r p q => by
  have w : wipe ((wipe σ [i]).set i (some v)) [i] = wipe σ [i] := by
    show ((σ.set i none).set i (some v)).set i none = σ.set i none
    rw [List.set_set, List.set_set]
  cases p
  exact q _ hr (er.set r) w
theorem gv_tup2 (G : Gx) {K : PySem.W.Frag} (hK : G.K = K) (i j : Nat) (hij : i ≠ j) : tGv G [i, j] (gTp 2 (gsCons (gNm i) (gsCons (gNm j) gsNil))) (gTup K 2 (gCons (gName i) (gCons (gName j) gNil))) := fun v σ H Q ρ h e e1 d h1 hr er r p q => by
  subst hK
  cases r with
  | tup hs rs =>
    simp only [gTp] at p
    split at p
    · rename_i c
      cases rs with
      | nil => cases c
      | @cons v1 _ d1 _ r1 rs =>
        cases rs with
        | nil => cases c
        | @cons v2 _ d2 _ r2 rs =>
          cases rs with
          | cons _ _ => simp at c
          | nil =>
            refine ⟨_, _, rfl, hs, rfl, _, _, rfl, _, _, rfl, rfl, ?_⟩
            have w : wipe (((wipe σ [i, j]).set i (some v1)).set j (some v2)) [i, j] = wipe σ [i, j] := by
              show (((((σ.set j none).set i none).set i (some v1)).set j (some v2)).set j none).set i none = (σ.set j none).set i none
              rw [List.set_set, List.set_set, List.set_comm _ _ hij, List.set_set, List.set_comm _ _ (Ne.symm hij), List.set_comm _ _ hij, List.set_set]
            cases p
            exact q _ hr ((er.set r1).set r2) w
    · cases p
  | _ => cases p
/-- a thing beside is changed that was not there at the start -/
theorem Le.beside {G : Gx} {ρ0 ρ : List Addr} {H0 H : Hp} {p : Addr} {u ho : HO} (l : Le G ρ0 H0 ρ H) (h0 : H0 p = none) (hp : H p = some u) (hu : openO u = true) : Le G ρ0 H0 ρ (upd H p ho) :=
  ⟨l.pre, fun a vs q => sqt_set hp hu (l.tup a vs q), fun a vs q => sqr_set hp hu (l.rol a vs q), fun b o e hb => by
    rw [upd_ne (ne_of_none e h0)]
    exact l.keep b o e hb, fun b o e => by
    obtain ⟨w, q⟩ := l.stay b o e
    exact ⟨w, by rw [upd_ne (ne_of_none e h0)]; exact q⟩⟩
theorem Le.free {G : Gx} {ρ0 ρ : List Addr} {H0 H : Hp} {p : Addr} (l : Le G ρ0 H0 ρ H) (h : H p = none) : H0 p = none := by
  cases e : H0 p with
  | none => rfl
  | some o =>
    obtain ⟨u, q⟩ := l.stay p o e
    rw [h] at q
    cases q
/-- beside stays beside -/
theorem Le.aside {G : Gx} {ρ ρ' : List Addr} {H H' : Hp} {p : Addr} {o : HO} (l : Le G ρ H ρ' H') (h : H p = some o) (hm : p ∉ ρ) : p ∉ ρ' ∧ H' p = some o := by
  obtain ⟨t, rfl, ht⟩ := l.pre
  refine ⟨fun z => ?_, l.keep p o h hm⟩
  rcases List.mem_append.mp z with z | z
  · exact hm z
  · rw [ht p z] at h
    cases h
theorem PostG.le {α : Type} {G : Gx} {ρ ρ' : List Addr} {H H' : Hp} {F : List Addr → Hh → Hp → α → Prop} {W : XK} {r : Res α} (l : Le G ρ H ρ' H') (p : PostG G ρ H F W r) : PostG G ρ' H' F W r := by
  cases r with
  | bad => exact p
  | ok d h => exact fun ρ2 H2 l2 => p ρ2 H2 (l.trans l2)
  | exc c fs h => exact fun ρ2 v H2 l2 => p ρ2 v H2 (l.trans l2)
/-- the turns make no exception -/
theorem compGo_noexc {w : Wk} {vs : List Nat} {g : GDen} {t : TDen} {elt : Den} {e : En} : ∀ (ds acc : List D) (h : Hh) (c : Nat) (fs : List (List Nat × D)) (h' : Hh), compGo w vs g t elt e ds acc h ≠ .exc c fs h'
  | [], acc, h, c, fs, h' => by
    unfold compGo
    split <;> exact fun q => nomatch q
  | d :: ds, acc, h, c, fs, h' => by
    unfold compGo
    split
    · cases g d (PI.forget e vs) h with
      | ok e1 h1 =>
        simp only [bn_ok]
        cases t e1 h1 with
        | ok b h2 =>
          simp only [bn_ok]
          split
          · cases elt e1 h2 with
            | ok x h3 =>
              simp only [bn_ok]
              split
              · exact compGo_noexc ds _ h3 c fs h'
              · exact fun q => nomatch q
            | _ => exact fun q => nomatch q
          · exact compGo_noexc ds _ h2 c fs h'
        | _ => exact fun q => nomatch q
      | _ => exact fun q => nomatch q
    · exact fun q => nomatch q
section
variable {X : Cx} {G : Gx} {W : WX} {pos : Pos} {tg iter elt : Expr} {ifs : List Expr} {scope : Scope} {own : List (Str × Nat)} {w : WDen} {g : GDen} {t : TDen} {da : Den} {tgr : TG}
abbrev W0 : WX := fun _ _ _ _ => False
/-- the new list lies beside the plain heap -/
theorem lc_gen {vs : List Nat} (gv : tGv G vs g tgr) {ρ : List Addr} {h : Hh} {H : Hp} {σ : L2.St} {e : En} {Q : VK} {F : List Addr → Hh → Hp → List D → Prop} (hr : HR G ρ h H) (er : ER G ρ H σ e)
    (p : PostG G ρ H F (fun c d H' => W c d σ H') (aComp w vs g t da e h))
    (fin : ∀ ρ' h' H' D vacc acc, Le G ρ H ρ' H' → HR G ρ' h' H' → D ∉ ρ' → H D = none → H' D = some (.lst vacc) → RDs G ρ' H' vacc acc → F ρ' h' H' acc → Q (.ref D) H') :
    tLc (tW G W w) tgr (tB' G W0 t) (tI G W0 da) vs σ H Q := by
  have p' : PostG G ρ H (fun ρ' h' H' k => PostG G ρ' H' F (fun c d H' => W c d σ H') (compGo k vs g t da e k.items [] h')) (fun c d H' => W c d σ H') (w e h) := by
    unfold aComp at p
    cases q : w e h with
    | bad => rw [q] at p; exact p
    | ok k h1 => rw [q] at p; exact fun ρ' H' l _ => PostG.le l p
    | exc c fs h1 => rw [q] at p; exact p
  refine tW.intro hr er p' fun ρ1 h1 H1 k J l1 hr1 it p1 pa hD => ?_
  have h0 := l1.free hD
  refine ⟨fun i m H => ∃ ρ h acc vacc, Le G ρ1 H1 ρ H ∧ HR G ρ h H ∧ pa ∉ ρ ∧ H pa = some (.lst vacc) ∧ RDs G ρ H vacc acc ∧ i ≤ k.items.length ∧ m = k.items.length - i ∧
      PostG G ρ1 H1 F (fun c d H' => W c d σ H') (compGo k vs g t da e (k.items.drop i) acc h),
    ⟨_, ρ1, h1, [], [], Le.new hD, hr1.beside hD, hr1.notin hD, upd_same, .nil, Nat.zero_le _, rfl, by simpa using p1⟩, fun i m H2 hw => ?_⟩
  obtain ⟨ρ2, h2, acc, vacc, l2, hr2, nD, eD, rD, hi, rfl, p2⟩ := hw
  by_cases hlt : i < k.items.length
  · rw [List.drop_eq_getElem_cons hlt] at p2
    simp only [compGo] at p2
    split at p2
    · rename_i st
      have ok := it ρ2 h2 H2 l2 hr2 st i
      obtain ⟨go, yl⟩ := ok.1 _ (List.getElem?_eq_getElem hlt)
      refine .inr ⟨go, fun H => ∃ ρ h acc vacc, Le G ρ1 H1 ρ H ∧ HR G ρ h H ∧ pa ∉ ρ ∧ H pa = some (.lst vacc) ∧ RDs G ρ H vacc acc ∧ PostG G ρ1 H1 F (fun c d H' => W c d σ H') (compGo k vs g t da e (k.items.drop (i + 1)) acc h),
        fun H' hN => ?_, fun x H3 hy => ?_⟩
      · obtain ⟨ρ3, h3, ac, va, a1, a2, a3, a4, a5, a6⟩ := hN
        exact ⟨k.items.length - (i + 1), by omega, ρ3, h3, ac, va, a1, a2, a3, a4, a5, hlt, rfl, a6⟩
      · obtain ⟨ρ3, l3, hr3, rd⟩ := yl x H3 hy
        obtain ⟨nD3, eD3⟩ := l3.aside eD nD
        have lA := l2.trans l3
        have er3 := (er.mono l1).mono lA
        cases qg : g k.items[i] (PI.forget e vs) h2 with
        | bad => rw [qg] at p2; exact p2.elim
        | exc c fs h4 => rw [qg] at p2; exact p2.elim
        | ok e4 h4 =>
          rw [qg] at p2
          simp only [bn_ok] at p2
          refine gv x σ H3 _ ρ3 h2 e e4 _ h4 hr3 (er3.forget vs) rd qg fun σ2 hr4 er4 ws => ⟨ws, ?_⟩
          refine ⟨ρ3, h4, e4, hr4, er4, ?_⟩
          cases qt : t e4 h4 with
          | bad => rw [qt] at p2; exact p2.elim
          | exc c fs h5 => rw [qt] at p2; exact p2.elim
          | ok b h5 =>
            rw [qt] at p2
            simp only [bn_ok] at p2
            intro ρ5 H5 l5 hr5
            obtain ⟨nD5, eD5⟩ := l5.aside eD3 nD3
            have rD5 := (rD.mono l3).mono l5
            cases b with
            | false =>
              rw [if_neg Bool.false_ne_true] at p2
              exact iteF ⟨ρ5, h5, acc, vacc, lA.trans l5, hr5, nD5, eD5, rD5, p2⟩
            | true =>
              rw [if_pos rfl] at p2
              refine iteT ⟨ρ5, h5, e4, hr5, er4.mono l5, ?_⟩
              cases qe : da e4 h5 with
              | bad => rw [qe] at p2; exact p2.elim
              | exc c fs h6 => rw [qe] at p2; exact p2.elim
              | ok y h6 =>
                rw [qe] at p2
                simp only [bn_ok] at p2
                intro ρ6 v6 H6 l6 hr6 r6
                obtain ⟨nD6, eD6⟩ := l6.aside eD5 nD5
                split at p2
                · rename_i c
                  rw [SLe] at c
                  have ll := ((lA.trans l5).trans l6).beside (ho := .lst (vacc ++ [v6])) hD eD6 rfl
                  have m2 : ∀ {vs : List V} {ds : List D}, RDs G ρ6 H6 vs ds → RDs G ρ6 (upd H6 pa (.lst (vacc ++ [v6]))) vs ds := fun r => RDs.mono2 (fun _ _ h => sqt_set eD6 rfl h) (fun _ _ h => sqr_set eD6 rfl h) r
                  exact ⟨vacc, eD6, by rw [rD.length]; exact c, ρ6, h6, acc ++ [y], _, ll, hr6.beside2 nD6 eD6 rfl, nD6, upd_same, m2 ((rD5.mono l6).append (.one r6)), p2⟩
                · exact p2.elim
    · exact p2.elim
  · have hn : i = k.items.length := by omega
    subst hn
    rw [List.drop_length] at p2
    simp only [compGo] at p2
    split at p2
    · rename_i st
      exact .inl ⟨(it ρ2 h2 H2 l2 hr2 st _).2 (Nat.le_refl _), fin ρ2 h2 H2 pa vacc acc (l1.trans l2) hr2 nD h0 eD rD (p2 ρ2 H2 l2 hr2)⟩
    · exact p2.elim
/-- beside things become objects of the plain heap -/
theorem adopt {ρ0 ρ : List Addr} {H0 H : Hp} {h : Hh} {pa : Addr} {vs : List V} {ds : List D} (l : Le G ρ0 H0 ρ H) (hr : HR G ρ h H) (nD : pa ∉ ρ) (h0 : H0 pa = none) (eD : H pa = some (.lst vs)) (r : RDs G ρ H vs ds) :
    Le G ρ0 H0 (ρ ++ [pa]) H ∧ HR G (ρ ++ [pa]) (h ++ [.lst ds]) H := by
  obtain ⟨t, rfl, ht⟩ := l.pre
  have up : ∀ {v : V} {d : D}, RD G (ρ0 ++ t) H v d → RD G (ρ0 ++ t ++ [pa]) H v d := fun r => RD.grow _ r
  have ups : ∀ {v : List V} {d : List D}, RDs G (ρ0 ++ t) H v d → RDs G (ρ0 ++ t ++ [pa]) H v d := fun r => RDs.grow _ r
  refine ⟨⟨⟨t ++ [pa], by simp, fun b hb => ?_⟩, l.tup, l.rol, l.keep, l.stay⟩, ⟨by
    have q := hr.len
    rw [List.length_append] at q
    rw [List.length_append, List.length_append, List.length_append, q] <;> rfl, ?_, fun i a u e1 e2 => ?_⟩⟩
  · rcases List.mem_append.mp hb with hb | hb
    · exact ht b hb
    · rw [List.mem_singleton.mp hb]
      exact h0
  · rw [List.nodup_append]
    refine ⟨hr.nd, by simp, fun b hb c hc => ?_⟩
    rw [List.mem_singleton.mp hc]
    exact fun z => nD (z ▸ hb)
  · by_cases hi : i < h.length
    · rw [List.getElem?_append_left (by rw [hr.len]; exact hi)] at e1
      rw [List.getElem?_append_left hi] at e2
      have q := hr.ok i a u e1 e2
      cases u with
      | lst ds => obtain ⟨vs, e, r⟩ := q; exact ⟨vs, e, ups r⟩
      | dk kvs => obtain ⟨vs, e, r⟩ := q; exact ⟨vs, e, r.mapD up⟩
      | dt kvs => obtain ⟨vs, e, r⟩ := q; exact ⟨vs, e, r.mapD up⟩
      | ins c fs => exact q.elim
    · rw [List.getElem?_append_right (by rw [hr.len]; omega)] at e1
      rw [List.getElem?_append_right (by omega)] at e2
      have h0 : i - h.length = 0 := by
        have q := (List.getElem?_eq_some_iff.mp e2).1
        simp at q
        omega
      rw [hr.len, h0] at e1
      rw [h0] at e2
      have ea : pa = a := by simpa using e1
      have eu : Ob.lst ds = u := by simpa using e2
      subst ea eu
      exact ⟨vs, eD, ups r⟩
theorem Post.bindG {α : Type} {ρ : List Addr} {H : Hp} {Q : VK} {W : XK} {r : Res α} {k : α → Hh → Res D} (p : Post G ρ H Q W (r.bind k)) : PostG G ρ H (fun _ h' _ a => Post G ρ H Q W (k a h')) W r := by
  cases r with
  | bad => exact p
  | ok a h => exact fun ρ' H' l _ => p
  | exc c fs h => exact p
theorem ie_lc (hc : X.calm = true) (hN : X.N.Nodup) (gv : tGv G (own.map (·.2)) g tgr) (hi : PI X tg iter (tW G W w)) (ok : BlkOk X.N X.env.scope scope own)
    (hg : ∀ (s : Shared) (H : Hp) (C : Addr) (cl : List (Str × Addr)) (fp : List Addr), PG (X.blk s H scope (compEnvC scope cl C X.env) fp) tg tgr) (ht : ∀ (s : Shared) (H : Hp) (C : Addr) (cl : List (Str × Addr)) (fp : List Addr), PTs (X.blk s H scope (compEnvC scope cl C X.env) fp) ifs (tB' G W0 t))
    (he : ∀ (s : Shared) (H : Hp) (C : Addr) (cl : List (Str × Addr)) (fp : List Addr), PE (X.blk s H scope (compEnvC scope cl C X.env) fp) elt (tI G W0 da)) (hs : ∀ x, foldedSetIterable iter X.env x = pure x := by intro _; rfl) :
    PE X (.ListComp elt [⟨tg, iter, ifs, 0⟩] scope pos) (tI G W (dLc (aComp w (own.map (·.2)) g t da))) := by
  refine pe_imp (pe_lc hc hN hi ok hg ht he hs) fun σ H Q ⟨ρ, h, e, hr, er, p⟩ => ?_
  refine lc_gen gv hr er (Post.bindG p) fun ρ1 h1 H1 pa vacc acc l1 hr1 nD h0 eD rD p1 => ?_
  obtain ⟨l2, hr2⟩ := adopt l1 hr1 nD h0 eD rD
  exact p1 _ _ _ l2 hr2 (.ref (by rw [← hr1.len]; simp))
end
end PI
/-! ## Pi7 -/
set_option Elab.async false
set_option linter.all false
set_option maxRecDepth 100000
set_option maxHeartbeats 1000000
set_option autoImplicit false
/-! PI, part 7: what is made of a comprehension at once, calls, defs, the end. -/
namespace PI
open PySem L2
section
variable {X : Cx} {G : Gx} {W : WX} {pos p : Pos} {tg iter elt : Expr} {ifs : List Expr} {scope : Scope} {own : List (Str × Nat)} {w : WDen} {g : GDen} {t : TDen} {da : Den} {tgr : TG}
theorem relabel_cf {env : Env} : ∀ {names : List (Str × NameKind)} {x : Str}, (names.lookup x = some .cell ∨ names.lookup x = some .free) →
    ((names.map fun (n, k) => if (k == NameKind.free && env.scope.kind == .function && env.kindOf n == some .cell) then (n, NameKind.cell) else (n, k)).lookup x = some .cell ∨ (names.map fun (n, k) => if (k == NameKind.free && env.scope.kind == .function && env.kindOf n == some .cell) then (n, NameKind.cell) else (n, k)).lookup x = some .free)
  | [], _, h => by simp at h
  | (n, k) :: r, x, h => by
    have ih := @relabel_cf env r x
    show List.lookup x ((if (k == NameKind.free && env.scope.kind == .function && env.kindOf n == some .cell) = true then (n, NameKind.cell) else (n, k)) :: _) = _ ∨ List.lookup x ((if (k == NameKind.free && env.scope.kind == .function && env.kindOf n == some .cell) = true then (n, NameKind.cell) else (n, k)) :: _) = _
    cases hx : x == n with
    | true =>
      simp only [List.lookup_cons, hx] at h
      by_cases hc : (k == NameKind.free && env.scope.kind == .function && env.kindOf n == some .cell) = true
      · rw [if_pos hc]
        exact .inl (by simp only [List.lookup_cons, hx])
      · rw [if_neg hc]
        simp only [List.lookup_cons, hx]
        exact h
    | false =>
      simp only [List.lookup_cons, hx] at h
      by_cases hc : (k == NameKind.free && env.scope.kind == .function && env.kindOf n == some .cell) = true
      · rw [if_pos hc]; simp only [List.lookup_cons, hx]; exact ih h
      · rw [if_neg hc]; simp only [List.lookup_cons, hx]; exact ih h
/-- a comprehension in a comprehension -/
theorem blkOk_in {X : Cx} {s : Shared} {H : Hp} {sc1 sc : Scope} {cl : List (Str × Addr)} {C : Addr} {fp : List Addr} {own : List (Str × Nat)} (h : blkC X.N sc1 sc own = true) : BlkOk (X.blk s H sc1 (compEnvC sc1 cl C X.env) fp).N (X.blk s H sc1 (compEnvC sc1 cl C X.env) fp).env.scope sc own := by
  obtain ⟨h1, h2, h3, h4, h5⟩ := blkOk_by h
  exact ⟨h1, h2, h3, fun y hy e => relabel_cf (h4 y hy e), h5⟩
/-- all that a comprehension's rule asks -/
structure CompOk (X : Cx) (G : Gx) (W : WX) (tg iter elt : Expr) (ifs : List Expr) (scope : Scope) (own : List (Str × Nat)) (w : WDen) (g : GDen) (t : TDen) (da : Den) : Prop where
  tgr : ∃ tgr : TG, tGv G (own.map (·.2)) g tgr ∧ (∀ (s : Shared) (H : Hp) (C : Addr) (cl : List (Str × Addr)) (fp : List Addr), PG (X.blk s H scope (compEnvC scope cl C X.env) fp) tg tgr)
  it : PI X tg iter (tW G W w)
  ok : BlkOk X.N X.env.scope scope own
  ht : ∀ (s : Shared) (H : Hp) (C : Addr) (cl : List (Str × Addr)) (fp : List Addr), PTs (X.blk s H scope (compEnvC scope cl C X.env) fp) ifs (tB' G W0 t)
  he : ∀ (s : Shared) (H : Hp) (C : Addr) (cl : List (Str × Addr)) (fp : List Addr), PE (X.blk s H scope (compEnvC scope cl C X.env) fp) elt (tI G W0 da)
  hs : ∀ x, foldedSetIterable iter X.env x = pure x
theorem its_nil {X : Cx} : PTs X [] (tB' G W PI.tYes) := ⟨fun pins s σ H Q I ⟨ρ, h, e, hr, er, p⟩ => pts_nil.run pins s σ H Q I (p ρ H Le.refl hr)⟩
theorem its_one {X : Cx} {c : Expr} {t : TDen} (h : PT X c (tB' G W t)) : PTs X [c] (tB' G W t) := pts_one h
theorem ie_comp (hc : X.calm = true) (hN : X.N.Nodup) (C : CompOk X G W tg iter elt ifs scope own w g t da) : PE X (.ListComp elt [⟨tg, iter, ifs, 0⟩] scope pos) (tI G W (dLc (aComp w (own.map (·.2)) g t da))) := by
  obtain ⟨⟨tgr, gv, hg⟩, hi, ok, ht, he, hs⟩ := C
  exact ie_lc hc hN gv hi ok hg ht he hs
/-- y = [..] on one line -/
theorem is_setLc (i : Nat) {y : Str} {py spos : Pos} (hc : X.calm = true) (hN : X.N.Nodup) (C : CompOk X G W tg iter elt ifs scope own w g t da) (hy : X.N[i]? = some y := by rfl) (hyl : X.env.scope.names.lookup y = some .local := by rfl)
    (hsw : swapsWith (.ListComp elt [⟨tg, iter, ifs, 0⟩] scope pos) (some (.Name y py)) spos.line X.env = pure true := by exact sw_true rfl rfl rfl (by decide +kernel)) :
    PS X (.Assign [.Name y py] (.ListComp elt [⟨tg, iter, ifs, 0⟩] scope pos) spos) (tS G W (sAsg (dLc (aComp w (own.map (·.2)) g t da)) (gNm i))) := by
  obtain ⟨⟨tgr, gv, hg⟩, hi, ok, ht, he, hs⟩ := C
  refine ps_imp (ps_setLc hc hN hy hyl hsw hi ok hg ht he hs) fun D σ H ⟨ρ, h, e, hr, er, p⟩ => ?_
  have p' : PostG G ρ H (fun ρ' h' H' a => ∀ ρ2 H2, Le G ρ H ρ2 H2 → HR G ρ2 (h' ++ [.lst a]) H2 → ∀ σ', ER G ρ2 H2 σ' (e.set i (some (.ref h'.length))) → D.nx σ' H2) (fun c d H' => W c d σ H') (aComp w (own.map (·.2)) g t da e h) := by
    have p := PostS.sb er p
    unfold dLc at p
    cases q : aComp w (own.map (·.2)) g t da e h with
    | bad => rw [q] at p; exact p
    | ok a h1 =>
      rw [q] at p
      exact fun ρ' H' l hr' ρ2 H2 l2 hr2 σ' er' => p ρ2 H2 l2 hr2 ρ2 H2 Le.refl hr2 σ' er'
    | exc c fs h1 => rw [q] at p; exact p
  refine lc_gen gv hr er p' fun ρ1 h1 H1 pa vacc acc l1 hr1 nD h0 eD rD p1 => ?_
  obtain ⟨l2, hr2⟩ := adopt l1 hr1 nD h0 eD rD
  refine p1 _ _ l2 hr2 _ ((er.mono l2).set (.ref ?_))
  rw [← hr1.len]
  simp
variable {x : Str} {r : List V → Hp → VK → Prop}
/-- a call of a built-in on a comprehension: the list is forgotten -/
theorem lc_call (C : CompOk X G W tg iter elt ifs scope own w g t da) {f : List D → Hh → Res D}
    (hf : ∀ ρ h H pa vs ds (Q : VK) (W : XK), HR G ρ h H → pa ∉ ρ → H pa = some (.lst vs) → RDs G ρ H vs ds → Post G ρ H Q W (f ds h) → r [.ref pa] H Q) :
    ∀ tgr, tGv G (own.map (·.2)) g tgr → ∀ σ H Q, tI G W (dArgs f (aComp w (own.map (·.2)) g t da)) σ H Q → tCB r (tCons (tLc (tW G W w) tgr (tB' G W0 t) (tI G W0 da) (own.map (·.2))) tNil) σ H Q := by
  intro tgr gv σ H Q ⟨ρ, h, e, hr, er, p⟩
  have z : tLc (tW G W w) tgr (tB' G W0 t) (tI G W0 da) (own.map (·.2)) σ H (fun x H1 => r [x] H1 Q) := lc_gen gv hr er (Post.bindG p) fun ρ1 h1 H1 pa vacc acc l1 hr1 nD h0 eD rD p1 => hf ρ1 h1 H1 pa vacc acc Q _ hr1 nD eD rD (Post.le l1 p1)
  exact z
theorem ie_compTy {T : String} (hc : X.calm = true) (hN : X.N.Nodup) (C : CompOk X G W tg iter elt ifs scope own w g t da) {f : List D → Hh → Res D} (cr : CallR X (.type T) r)
    (hf : ∀ ρ h H pa vs ds (Q : VK) (W : XK), HR G ρ h H → pa ∉ ρ → H pa = some (.lst vs) → RDs G ρ H vs ds → Post G ρ H Q W (f ds h) → r [.ref pa] H Q) (hm : X.mg x = none) (hg : Gl X x) (hv : bootBuiltins x = some (.type T))
    (hn : x ≠ "__name__" := by decide) (hdb : (x == ("__debug__" : Str)) = false := by decide) {q : Pos}
    (hst : starEach [Expr.ListComp elt [⟨tg, iter, ifs, 0⟩] scope pos] X.env = (false, eval (.ListComp elt [⟨tg, iter, ifs, 0⟩] scope pos) X.env) :: starEach [] X.env := by rfl) :
    PE X (.Call (.Name x p) [.ListComp elt [⟨tg, iter, ifs, 0⟩] scope pos] [] q) (tI G W (dArgs f (aComp w (own.map (·.2)) g t da))) := by
  have C' := C
  obtain ⟨⟨tgr, gv, hgt⟩, hi, ok, ht, he, hs⟩ := C
  exact pe_imp (pe_callTy cr hg hm hv (pa_cons (pe_lc hc hN hi ok hgt ht he hs) pa_nil hst) hn hdb hst) (lc_call C' hf tgr gv)
theorem ie_compB {id : String} (hc : X.calm = true) (hN : X.N.Nodup) (C : CompOk X G W tg iter elt ifs scope own w g t da) {f : List D → Hh → Res D} (cr : CallR X (.builtin id) r)
    (hf : ∀ ρ h H pa vs ds (Q : VK) (W : XK), HR G ρ h H → pa ∉ ρ → H pa = some (.lst vs) → RDs G ρ H vs ds → Post G ρ H Q W (f ds h) → r [.ref pa] H Q) (hm : X.mg x = none) (hg : Gl X x) (hv : bootBuiltins x = some (.builtin id))
    (hn : x ≠ "__name__" := by decide) (hdb : (x == ("__debug__" : Str)) = false := by decide) {q : Pos}
    (hst : starEach [Expr.ListComp elt [⟨tg, iter, ifs, 0⟩] scope pos] X.env = (false, eval (.ListComp elt [⟨tg, iter, ifs, 0⟩] scope pos) X.env) :: starEach [] X.env := by rfl) :
    PE X (.Call (.Name x p) [.ListComp elt [⟨tg, iter, ifs, 0⟩] scope pos] [] q) (tI G W (dArgs f (aComp w (own.map (·.2)) g t da))) := by
  have C' := C
  obtain ⟨⟨tgr, gv, hgt⟩, hi, ok, ht, he, hs⟩ := C
  exact pe_imp (pe_callB cr hg hm hv (pa_cons (pe_lc hc hN hi ok hgt ht he hs) pa_nil hst) hn hdb hst) (lc_call C' hf tgr gv)
theorem ie_tupC (hK : G.K = X.K) (hc : X.calm = true) (hN : X.N.Nodup) (C : CompOk X G W tg iter elt ifs scope own w g t da) (hm : X.mg "tuple" = none) (hg : Gl X "tuple" := by rfl) {q : Pos}
    (hst : starEach [Expr.ListComp elt [⟨tg, iter, ifs, 0⟩] scope pos] X.env = (false, eval (.ListComp elt [⟨tg, iter, ifs, 0⟩] scope pos) X.env) :: starEach [] X.env := by rfl) :
    PE X (.Call (.Name "tuple" p) [.ListComp elt [⟨tg, iter, ifs, 0⟩] scope pos] [] q) (tI G W (dArgs fTup (aComp w (own.map (·.2)) g t da))) :=
  ie_compTy hc hN C call_tuple_of (fun ρ h H pa vs ds Q W hr nD eD rD p => ⟨pa, vs, rfl, .inl ⟨SqL.of eD, fun l hl => post_tup p hr rD hl⟩⟩) hm hg (by decide +kernel) (by decide) (by decide) hst
theorem ie_allC (hK : G.K = X.K) (hc : X.calm = true) (hN : X.N.Nodup) (C : CompOk X G W tg iter elt ifs scope own w g t da) (hm : X.mg "all" = none) (hg : Gl X "all" := by rfl) {q : Pos}
    (hst : starEach [Expr.ListComp elt [⟨tg, iter, ifs, 0⟩] scope pos] X.env = (false, eval (.ListComp elt [⟨tg, iter, ifs, 0⟩] scope pos) X.env) :: starEach [] X.env := by rfl) :
    PE X (.Call (.Name "all" p) [.ListComp elt [⟨tg, iter, ifs, 0⟩] scope pos] [] q) (tI G W (dArgs fAll (aComp w (own.map (·.2)) g t da))) :=
  ie_compB hc hN C (cr_all hc) (fun ρ h H pa vs ds Q W hr nD eD rD p => by
    unfold fAll at p
    split at p
    · rename_i bs e
      have z := bls_ok rD e
      subst z
      exact ⟨pa, _, rfl, SqL.of eD, post_here p hr (.bl _)⟩
    · exact p.elim) hm hg (by decide +kernel) (by decide) (by decide) hst
theorem ie_anyC (hK : G.K = X.K) (hc : X.calm = true) (hN : X.N.Nodup) (C : CompOk X G W tg iter elt ifs scope own w g t da) (hm : X.mg "any" = none) (hg : Gl X "any" := by rfl) {q : Pos}
    (hst : starEach [Expr.ListComp elt [⟨tg, iter, ifs, 0⟩] scope pos] X.env = (false, eval (.ListComp elt [⟨tg, iter, ifs, 0⟩] scope pos) X.env) :: starEach [] X.env := by rfl) :
    PE X (.Call (.Name "any" p) [.ListComp elt [⟨tg, iter, ifs, 0⟩] scope pos] [] q) (tI G W (dArgs fAny (aComp w (own.map (·.2)) g t da))) :=
  ie_compB hc hN C (cr_any hc) (fun ρ h H pa vs ds Q W hr nD eD rD p => by
    unfold fAny at p
    split at p
    · rename_i bs e
      have z := bls_ok rD e
      subst z
      exact ⟨pa, _, rfl, SqL.of eD, post_here p hr (.bl _)⟩
    · exact p.elim) hm hg (by decide +kernel) (by decide) (by decide) hst
theorem ie_sumC (hK : G.K = X.K) (hc : X.calm = true) (hN : X.N.Nodup) (C : CompOk X G W tg iter elt ifs scope own w g t da) (hm : X.mg "sum" = none) (hg : Gl X "sum" := by rfl) {q : Pos}
    (hst : starEach [Expr.ListComp elt [⟨tg, iter, ifs, 0⟩] scope pos] X.env = (false, eval (.ListComp elt [⟨tg, iter, ifs, 0⟩] scope pos) X.env) :: starEach [] X.env := by rfl) :
    PE X (.Call (.Name "sum" p) [.ListComp elt [⟨tg, iter, ifs, 0⟩] scope pos] [] q) (tI G W (dArgs fSum (aComp w (own.map (·.2)) g t da))) :=
  ie_compB hc hN C (cr_sum hc) (fun ρ h H pa vs ds Q W hr nD eD rD p => by
    unfold fSum at p
    split at p
    · rename_i bs e
      have z := ints_ok rD e
      subst z
      exact ⟨pa, _, rfl, SqL.of eD, post_here p hr (.int _)⟩
    · exact p.elim) hm hg (by decide +kernel) (by decide) (by decide) hst
end
/-! ### x.extend([..]): the new list is forgotten -/
section
variable {X : Cx} {G : Gx} {W : WX} {apos cpos lpos : Pos} {o : Expr} {es : List Expr} {da : Den} {dr : ADen}
theorem ie_extL (hK : G.K = X.K) (ho : PE X o (tI G W da)) (ha : PA X es (tA G W dr))
    (hbase : attributeBase o "extend" X.env (eval o X.env) = eval o X.env := by rfl)
    (hfew : ((backTo cpos (starEach [Expr.List es lpos] X.env)).all (fun x => !x.1) && (backToKw cpos (keywordEach [] X.env)).all (fun x => x.1.isSome)
      && decide ([Expr.List es lpos].length + ([] : List Keyword).length + (if ([] : List Keyword).isEmpty then 0 else 1) < 30)) = true := by rfl)
    (hline : (apos.endLine == cpos.line) = true := by rfl) (hs : starEach [Expr.List es lpos] X.env = (false, eval (.List es lpos) X.env) :: starEach [] X.env := by rfl) :
    PE X (.Call (.Attribute o "extend" apos) [.List es lpos] [] cpos) (tI G W (dMeth mExtL da dr)) := by
  refine pe_imp (pe_bm PySem.F.plainAttrs_list PySem.F.slot_list_extend PySem.F.type_list_extend mt_extend ho (pa_cons (pe_lst ha) pa_nil hs) hbase hfew hline hs rfl) fun σ H Q ⟨ρ, h, e, hr, er, p⟩ => ?_
  refine tI.intro hr er (Post.bind p) fun ρ1 h1' H1 x v l1 hr1 r1 p1 => ?_
  split at p1
  · rename_i c
    refine ⟨hK ▸ isLst_ty hr1 r1 c, ?_⟩
    refine tA.intro hr1 (er.mono l1) (Post.bind p1) fun ρ2 h2 H2 xs vs l2 hr2 r2 p2 => ?_
    have r1' := r1.mono l2
    cases r1' with
    | ref q =>
      simp only [mExtL] at p2
      split at p2
      · rename_i ys g
        obtain ⟨ws, g1, g2⟩ := lst_of hr2 q g
        split at p2
        · rename_i c2
          rw [SLe, ← g2.length, ← r2.length] at c2
          refine ⟨by omega, fun l hl => ?_⟩
          have hr3 := hr2.beside (ho := .lst vs) hl
          have p3 := Post.le (Le.new (ho := .lst vs) hl) p2
          have nl := ne_of_none g1 hl
          exact ⟨_, l, ws, vs, rfl, rfl, by rw [upd_ne nl]; exact g1, upd_same, c2, post_set p3 hr3 q g (by rw [upd_ne nl]; exact g1) ((g2.append r2).mono (Le.new hl)) .non⟩
        · exact p2.elim
      · exact p2.elim
    | _ => exact False.elim p2
  · exact p1.elim
end

section
variable {X : Cx} {G : Gx} {W : WX} {apos cpos pos : Pos} {o tg iter elt : Expr} {ifs : List Expr} {scope : Scope} {own : List (Str × Nat)} {w : WDen} {g : GDen} {t : TDen} {da do_ : Den}
theorem ie_extC (hK : G.K = X.K) (hc : X.calm = true) (hN : X.N.Nodup) (ho : PE X o (tI G W do_)) (C : CompOk X G W tg iter elt ifs scope own w g t da)
    (hbase : attributeBase o "extend" X.env (eval o X.env) = eval o X.env := by rfl)
    (hfew : ((backTo cpos (starEach [Expr.ListComp elt [⟨tg, iter, ifs, 0⟩] scope pos] X.env)).all (fun x => !x.1) && (backToKw cpos (keywordEach [] X.env)).all (fun x => x.1.isSome)
      && decide ([Expr.ListComp elt [⟨tg, iter, ifs, 0⟩] scope pos].length + ([] : List Keyword).length + (if ([] : List Keyword).isEmpty then 0 else 1) < 30)) = true := by rfl)
    (hline : (apos.endLine == cpos.line) = true := by rfl) (hst : starEach [Expr.ListComp elt [⟨tg, iter, ifs, 0⟩] scope pos] X.env = (false, eval (.ListComp elt [⟨tg, iter, ifs, 0⟩] scope pos) X.env) :: starEach [] X.env := by rfl) :
    PE X (.Call (.Attribute o "extend" apos) [.ListComp elt [⟨tg, iter, ifs, 0⟩] scope pos] [] cpos) (tI G W (dMeth mExtL do_ (aComp w (own.map (·.2)) g t da))) := by
  obtain ⟨⟨tgr, gv, hgt⟩, hi, ok, ht, he, hs⟩ := C
  refine pe_imp (pe_bm PySem.F.plainAttrs_list PySem.F.slot_list_extend PySem.F.type_list_extend mt_extend ho (pa_cons (pe_lc hc hN hi ok hgt ht he hs) pa_nil hst) hbase hfew hline hst rfl) fun σ H Q ⟨ρ, h, e, hr, er, p⟩ => ?_
  refine tI.intro hr er (Post.bind p) fun ρ1 h1' H1 x v l1 hr1 r1 p1 => ?_
  split at p1
  · rename_i c
    refine ⟨hK ▸ isLst_ty hr1 r1 c, ?_⟩
    have z : tLc (tW G W w) tgr (tB' G W0 t) (tI G W0 da) (own.map (·.2)) σ H1 (fun y H2 => tNil σ H2 fun xs H3 => rExtend v (y :: xs) H3 Q) := lc_gen gv hr1 (er.mono l1) (Post.bindG p1) fun ρ2 h2 H2 pa vacc acc l2 hr2 nD h0 eD rD p2 => by
      have p2 := Post.le l2 p2
      have r1' := r1.mono l2
      cases r1' with
      | ref q =>
        simp only [mExtL] at p2
        split at p2
        · rename_i ys g
          obtain ⟨ws, g1, g2⟩ := lst_of hr2 q g
          split at p2
          · rename_i c2
            rw [SLe, ← g2.length, ← rD.length] at c2
            exact ⟨_, pa, ws, vacc, rfl, rfl, g1, eD, c2, post_set p2 hr2 q g g1 (g2.append rD) .non⟩
          · exact p2.elim
        · exact p2.elim
      | _ => exact False.elim p2
    exact z
  · exact p1.elim
end

/-! ### calls of the program's own defs -/
/-- what a def promises: it does what g says -/
def spI (G : Gx) (np : Nat) (g : List D → Hh → Res D) : Sp := fun vs H Q E => ∃ ρ h ds, HR G ρ h H ∧ RDs G ρ H vs ds ∧ ds.length = np ∧ Post G ρ H Q E (g ds h)
structure CalOk (P : Program) (w : World) (K : PySem.W.Frag) (mg : Str → Option Value) (base : Heap) (G : Gx) (n : Nat) (x : Str) (np : Nat) (g : List D → Hh → Res D) : Prop where
  ex : ∃ f fd ps, mg x = some (.ref f) ∧ PySem.W.keepIn K (.ref f) = true ∧ Binds K fd ps [] ∧ FnOk P w K mg base (L2.CX P w) n f fd ps (spI G np g)
section
variable {X : Cx} {G : Gx} {W : WX} {pos p : Pos} {e : Expr} {es : List Expr} {dr : ADen} {x : Str} {n np k : Nat} {c : Cal}
theorem ie_call (C : CalOk X.prog X.w X.K X.mg X.base G n x np (c k)) (hr : Room n X.A) (tk : Takes X W) (ha : PA X (e :: es) (tA G W dr)) (hg : Gl X x := by rfl) (hdb : (x == ("__debug__" : Str)) = false := by decide)
    (he : starEach (e :: es) X.env = (false, eval e X.env) :: starEach es X.env := by rfl) (hpl : (backTo pos (starEach es X.env)).any (·.1) = false := by rfl) : PE X (.Call (.Name x p) (e :: es) [] pos) (tI G W (dCallN c k np dr)) := by
  obtain ⟨f, fd, ps, hm, hk, hb, F⟩ := C.ex
  refine pe_imp (pe_callS F hr hg hm hk hb (fun σ => passAt tk σ) ha hdb he hpl) fun σ H Q ⟨ρ, h, e, hr, er, p⟩ => ?_
  refine tA.intro hr er (Post.bind p) fun ρ1 h1 H1 xs vs l1 hr1 r1 p1 => ?_
  split at p1
  · rename_i q
    exact ⟨ρ1, h1, xs, hr1, r1, q, p1⟩
  · exact p1.elim
theorem ie_call0 (C : CalOk X.prog X.w X.K X.mg X.base G n x 0 (c k)) (hr : Room n X.A) (hg : Gl X x := by rfl) (hdb : (x == ("__debug__" : Str)) = false := by decide) : PE X (.Call (.Name x p) [] [] pos) (tI G W (dCall0 c k)) := by
  obtain ⟨f, fd, ps, hm, hk, hb, F⟩ := C.ex
  refine pe_imp (pe_call0 F hr hg hm hk hb .nil passL hdb) fun σ H Q ⟨ρ, h, e, hr, er, p⟩ => ?_
  unfold dCall0 at p
  refine ⟨ρ, h, [], hr, .nil, rfl, ?_⟩
  show Post G ρ H Q E0 (c k [] h)
  cases q : c k [] h with
  | ok d h1 => rw [q] at p; exact p
  | _ => rw [q] at p; exact p.elim
end
/-! ### a def -/
theorem er_start {G : Gx} {ρ : List Addr} {H : Hp} {vs : List V} {ds : List D} (N : List Str) (r : RDs G ρ H vs ds) : ER G ρ H (L2.start N vs) (ds.map some ++ List.replicate (N.length - ds.length) none) := by
  unfold L2.start
  rw [r.length]
  refine ⟨by simp [r.length], fun i d q => ?_⟩
  by_cases hi : i < ds.length
  · rw [List.getElem?_append_left (by simpa using hi), List.getElem?_map] at q
    cases e : ds[i]? with
    | none => rw [e] at q; cases q
    | some d' =>
      rw [e] at q
      cases q
      obtain ⟨v, h1, h2⟩ := r.get e
      refine ⟨v, ?_, h2⟩
      rw [List.getElem?_append_left (by simpa [r.length] using hi), List.getElem?_map, h1]
      rfl
  · rw [List.getElem?_append_right (by simpa using hi), List.getElem?_replicate] at q
    split at q <;> cases q
theorem fn_I {P : Program} {w : World} {K : PySem.W.Frag} {mg : Str → Option Value} {base : Heap} {G : Gx} {x qual : Str} {st : Stmt} {f : Addr} {fd : FuncData} {N ps : List Str} {n : Nat} {b : SDen} (F : Fun K x qual st f fd) (S : FnScope N ps (defScope st))
    (hb : ∀ (cdv : Value) (A : Around) (outer : List Env) (s : Shared) (H : Hp) (E : XK), Room n (A.deeper (PyProof.Rows.envOfC qual (defScope st) s.heap.objs.size f cdv)) →
      PSs (cxOf (L2.CX P w) P w K mg base N qual (defScope st) f cdv A outer s H E) (defBody st) (tS G (fun cls d _ H => E cls d H) b)) :
    FnOk P w K mg base (L2.CX P w) (n + 1) f fd ps (spI G ps.length fun ds h => runBody N.length b ps.length ds h) := by
  refine F.okX S (fun vs H Q E ⟨ρ, h, ds, hr, r, hl, p⟩ => by rw [r.length]; exact hl) fun cdv A outer s H vs Q E hr ⟨ρ, h, ds, hr', r, hl, p⟩ => ?_
  refine ⟨_, hb cdv A outer s H E hr, ρ, h, _, hr', er_start N r, ?_⟩
  have p : Post G ρ H Q E (runBody N.length b ps.length ds h) := p
  unfold runBody at p
  rw [if_pos hl] at p
  rw [hl]
  cases q : b (ds.map some ++ List.replicate (N.length - ps.length) none) h with
  | bad => rw [q] at p; exact p
  | exc c fs h1 => rw [q] at p; exact p.elim
  | ok fl h1 =>
    rw [q] at p
    intro ρ1 H1 l1 hr1
    cases fl with
    | nx e => exact fun σ _ => p ρ1 .non H1 l1 hr1 .non
    | rt d => exact fun v rv => p ρ1 v H1 l1 hr1 rv
    | bk e => exact p.elim
    | ct e => exact p.elim
    | xc c fs e => exact fun σ dd _ x => p ρ1 dd H1 l1 hr1 x
end PI
/-! ## Pi8 -/
set_option Elab.async false
set_option linter.all false
set_option maxRecDepth 100000
set_option maxHeartbeats 1000000
set_option autoImplicit false
/-! PI, part 8: more built-ins, reversed. -/
namespace PI
open PySem L2
theorem maxL_ge : ∀ (is : List Int) (m : Int), m ≤ maxL m is ∧ (∀ y ∈ is, y ≤ maxL m is) ∧ (maxL m is = m ∨ maxL m is ∈ is)
  | [], m => ⟨Int.le_refl _, by simp, .inl rfl⟩
  | i :: is, m => by
    obtain ⟨h1, h2, h3⟩ := maxL_ge is (if i > m then i else m)
    simp only [maxL]
    refine ⟨?_, fun y hy => ?_, ?_⟩
    · split at h1 <;> rename_i c <;> simp only [c, if_true, if_false] <;> omega
    · rcases List.mem_cons.mp hy with rfl | hy
      · split at h1 <;> rename_i c <;> simp only [c, if_true, if_false] <;> omega
      · exact h2 y hy
    · rcases h3 with h3 | h3
      · split at h3
        · rename_i c
          rw [if_pos c] at *
          exact .inr (by rw [h3]; simp)
        · rename_i c
          rw [if_neg c] at *
          exact .inl h3
      · exact .inr (List.mem_cons_of_mem _ h3)
theorem minL_le : ∀ (is : List Int) (m : Int), minL m is ≤ m ∧ (∀ y ∈ is, minL m is ≤ y) ∧ (minL m is = m ∨ minL m is ∈ is)
  | [], m => ⟨Int.le_refl _, by simp, .inl rfl⟩
  | i :: is, m => by
    obtain ⟨h1, h2, h3⟩ := minL_le is (if i < m then i else m)
    simp only [minL]
    refine ⟨?_, fun y hy => ?_, ?_⟩
    · split at h1 <;> rename_i c <;> simp only [c, if_true, if_false] <;> omega
    · rcases List.mem_cons.mp hy with rfl | hy
      · split at h1 <;> rename_i c <;> simp only [c, if_true, if_false] <;> omega
      · exact h2 y hy
    · rcases h3 with h3 | h3
      · split at h3
        · rename_i c
          rw [if_pos c] at *
          exact .inr (by rw [h3]; simp)
        · rename_i c
          rw [if_neg c] at *
          exact .inl h3
      · exact .inr (List.mem_cons_of_mem _ h3)
section
variable {X : Cx} {G : Gx}
theorem cs_max1 (hK : G.K = X.K) (hc : X.calm = true) : CallS X G (.builtin "max") bMax1 := ⟨_, cr_max hc, fun ρ h H xs ds Q W hr r p => by
  cases r with
  | nil => exact False.elim p
  | cons a r' =>
    cases r' with
    | cons _ _ => exact False.elim p
    | nil =>
      simp only [bMax1] at p
      split at p
      · rename_i i is e
        obtain ⟨_, ds, vs, rfl, g1, g2, g3⟩ := lst_arg hr a e
        have z := ints_ok g2 g3
        subst z
        refine ⟨_, _, rfl, hK ▸ g1, by simp, fun m hm hy => ?_⟩
        obtain ⟨h1, h2, h3⟩ := maxL_ge is i
        have em : m = maxL i is := by
          have a1 := hy (maxL i is) (by rcases h3 with h3 | h3 <;> simp [h3])
          have a2 : m ≤ maxL i is := by
            rcases List.mem_cons.mp hm with q | q
            · omega
            · exact h2 m q
          omega
        rw [em]
        exact post_here p hr (.int _)
      · exact p.elim⟩
theorem cs_min1 (hK : G.K = X.K) (hc : X.calm = true) : CallS X G (.builtin "min") bMin1 := ⟨_, cr_min hc, fun ρ h H xs ds Q W hr r p => by
  cases r with
  | nil => exact False.elim p
  | cons a r' =>
    cases r' with
    | cons _ _ => exact False.elim p
    | nil =>
      simp only [bMin1] at p
      split at p
      · rename_i i is e
        obtain ⟨_, ds, vs, rfl, g1, g2, g3⟩ := lst_arg hr a e
        have z := ints_ok g2 g3
        subst z
        refine ⟨_, _, rfl, hK ▸ g1, by simp, fun m hm hy => ?_⟩
        obtain ⟨h1, h2, h3⟩ := minL_le is i
        have em : m = minL i is := by
          have a1 := hy (minL i is) (by rcases h3 with h3 | h3 <;> simp [h3])
          have a2 : minL i is ≤ m := by
            rcases List.mem_cons.mp hm with q | q
            · omega
            · exact h2 m q
          omega
        rw [em]
        exact post_here p hr (.int _)
      · exact p.elim⟩
end
section
variable {X : Cx} {G : Gx} {W : WX} {pos p : Pos} {tg a : Expr} {da : Den}
theorem ie_rev (hK : G.K = X.K) {k : Nat} {p1 p2 p3 : Pos} (ha : PE X a (tI G W da)) : PE X (.Subscript a (.Slice none none (some (.UnaryOp .USub (.Constant (.int 1) k p1) p2)) p3) pos) (tI G W (dUn oRev da)) := by
  refine pe_imp (pe_revL ha) fun σ H Q ⟨ρ, h, e, hr, er, p⟩ => ?_
  refine tI.intro hr er (Post.bind p) fun ρ1 h1 H1 x v l1 hr1 r1 p1 => ?_
  unfold oRev at p1
  split at p1
  · rename_i xs g
    obtain ⟨_, vs, rfl, g1, g2⟩ := list_ok hr1 r1 g
    refine ⟨_, _, rfl, hK ▸ g1, fun l hl => post_lst p1 hr1 ?_ hl⟩
    exact RDs.reverse g2
  · exact p1.elim
/-- a walk from the end, of what stands still -/
theorem rev_tup {ρ0 : List Addr} {H0 : Hp} {a : Addr} {vs : List V} {ds : List D} (hs : SqT G.K H0 a vs) (r : RDs G ρ0 H0 vs ds) : ItOk G ρ0 H0 (.its ds.reverse) (RT.ItvT G.K a vs.length) := by
  intro ρ h H l hr _ i
  have hs' := l.tup _ _ hs
  have r' := r.mono l
  refine ⟨fun d e => ?_, fun hi => ?_⟩
  · obtain ⟨hi, e2⟩ := List.getElem?_eq_some_iff.mp e
    have hi : i < ds.length := by simpa [Wk.items] using hi
    have e : ds.reverse[i]? = some d := e
    rw [List.getElem?_reverse hi, ← r.length] at e
    obtain ⟨v, g1, g2⟩ := r'.get e
    refine ⟨⟨by rw [r.length]; exact hi, vs, v, hs', g1⟩, fun x H' hy => ?_⟩
    obtain ⟨rfl, hy⟩ := hy
    have e2 := hy vs hs'
    rw [g1] at e2
    cases e2
    exact ⟨ρ, Le.refl, hr, g2⟩
  · show vs.length ≤ i
    rw [r.length]
    simpa [Wk.items] using hi
theorem rev_rl {ρ0 : List Addr} {H0 : Hp} {a : Addr} {vs : List V} {ds : List D} (hs : SqR G.K H0 a vs) (r : RDs G ρ0 H0 vs ds) : ItOk G ρ0 H0 (.its ds.reverse) (Itv G.K a vs.length) := by
  intro ρ h H l hr _ i
  have hs' := (l.rol _ _ hs).sq
  have r' := r.mono l
  refine ⟨fun d e => ?_, fun hi => ?_⟩
  · obtain ⟨hi, e2⟩ := List.getElem?_eq_some_iff.mp e
    have hi : i < ds.length := by simpa [Wk.items] using hi
    have e : ds.reverse[i]? = some d := e
    rw [List.getElem?_reverse hi, ← r.length] at e
    obtain ⟨v, g1, g2⟩ := r'.get e
    refine ⟨⟨by rw [r.length]; exact hi, vs, v, hs', g1⟩, fun x H' hy => ?_⟩
    obtain ⟨rfl, hy⟩ := hy
    have e2 := hy vs hs'
    rw [g1] at e2
    cases e2
    exact ⟨ρ, Le.refl, hr, g2⟩
  · show vs.length ≤ i
    rw [r.length]
    simpa [Wk.items] using hi
theorem rev_lst {ρ0 : List Addr} {H0 : Hp} {n : Nat} {a : Addr} {ds : List D} (q : ρ0[n]? = some a) : ItOk G ρ0 H0 (.rvl n ds) (Itv G.K a ds.length) := by
  intro ρ h H l hr st i
  have q' := l.at q
  have e : lstAt h n = some ds := by
    simp only [Wk.still] at st
    split at st
    · rename_i ys g
      rw [g, D.sameL_eq _ _ st]
    · cases st
  obtain ⟨vs, g1, r'⟩ := sql_of hr q' e
  refine ⟨fun d e => ?_, fun hi => ?_⟩
  · obtain ⟨hi, e2⟩ := List.getElem?_eq_some_iff.mp e
    have hi : i < ds.length := by simpa [Wk.items] using hi
    have e : ds.reverse[i]? = some d := e
    rw [List.getElem?_reverse hi] at e
    obtain ⟨v, g3, g2⟩ := r'.get e
    refine ⟨⟨hi, vs, v, SqL.of g1, g3⟩, fun x H' hy => ?_⟩
    obtain ⟨rfl, hy⟩ := hy
    have e2 := hy vs (SqL.of g1)
    rw [g3] at e2
    cases e2
    exact ⟨ρ, Le.refl, hr, g2⟩
  · show ds.length ≤ i
    simpa [Wk.items] using hi
theorem iw_rev (hK : G.K = X.K) (ha : PE X a (tI G W da)) (hm : X.mg "reversed" = none) (hg : Gl X "reversed" := by rfl) (hs : starEach [a] X.env = (false, eval a X.env) :: starEach [] X.env := by rfl) : PI X tg (.Call (.Name "reversed" p) [a] [] pos) (tW G W (wRev da)) := by
  refine pi_imp (RT.pi_revA hg hm ha hs) fun σ H R ⟨ρ, h, e, hr, er, p⟩ => ?_
  refine tI.intro hr er (PostW.bind p) fun ρ1 h1 H1 x v l1 hr1 r1 p1 => ?_
  cases r1 with
  | tup hs rs => exact ⟨_, _, rfl, .inr ⟨hK ▸ hs, p1 ρ1 H1 _ Le.refl hr1 (hK ▸ rev_tup hs rs)⟩⟩
  | rl hs rs => exact ⟨_, _, rfl, .inl ⟨hK ▸ hs.sq, p1 ρ1 H1 _ Le.refl hr1 (hK ▸ rev_rl hs rs)⟩⟩
  | ref q =>
    simp only at p1
    split at p1
    · rename_i xs g
      obtain ⟨vs, g1, g2⟩ := sql_of hr1 q g
      refine ⟨_, _, rfl, .inl ⟨SqL.of g1, p1 ρ1 H1 _ Le.refl hr1 ?_⟩⟩
      rw [g2.length, ← hK]
      exact rev_lst q
    · exact p1.elim
  | _ => exact False.elim p1
end
end PI
/-! ## PiD -/
set_option Elab.async false
set_option linter.all false
set_option maxRecDepth 100000
set_option maxHeartbeats 1000000
set_option autoImplicit false
/-! PI: dicts keyed by ints and texts. -/
namespace PI
open PySem L2
section
variable {G : Gx} {ρ : List Addr} {H : Hp} {h : Hh}
theorem key_ok {v : V} {d : D} {k : Ky} (r : RD G ρ H v d) (e : keyOf d = some k) : v = kV (kyV k) := by
  cases r with
  | int i => cases e; rfl
  | str x =>
    cases e
    rfl
  | _ => cases e
theorem valK_ok {ks : List (Key × V)} {kvs : List (Ky × D)} (r : RK kyV G ρ H ks kvs) (k : Ky) : (valV ks (kyV k) = none ∧ valK kvs k = none) ∨ ∃ v d, valV ks (kyV k) = some v ∧ valK kvs k = some d ∧ RD G ρ H v d := by
  induction r with
  | nil => exact .inl ⟨valV_nil, rfl⟩
  | @cons q v d r s rd rr ih =>
    by_cases c : q = k
    · exact .inr ⟨v, d, valV_pos (congrArg kyV c), by rw [valK, if_pos c], rd⟩
    · have c' : ¬ kyV q = kyV k := fun z => c (kyV_inj z)
      rw [show valV ((kyV q, v) :: r) (kyV k) = valV r (kyV k) from valV_neg c', show valK ((q, d) :: s) k = valK s k by rw [valK, if_neg c]]
      exact ih
theorem setK_any {ks : List (Key × V)} {kvs : List (Ky × D)} (r : RK kyV G ρ H ks kvs) (k : Ky) : (ks.any fun kv => decide (kv.1 = kyV k)) = kvs.any fun kv => decide (kv.1 = k) := by
  induction r with
  | nil => rfl
  | @cons q v d r s rd rr ih =>
    rw [List.any_cons, List.any_cons, ih]
    congr 1
    by_cases c : q = k
    · rw [decide_eq_true (show (q, d).1 = k from c), decide_eq_true (show (kyV q, v).1 = kyV k from congrArg kyV c)]
    · rw [decide_eq_false (show ¬ (q, d).1 = k from c), decide_eq_false (show ¬ (kyV q, v).1 = kyV k from fun z => c (kyV_inj z))]
theorem RK.mapSet {v : V} {d : D} (rd : RD G ρ H v d) (k : Ky) {ks : List (Key × V)} {kvs : List (Ky × D)} (r : RK kyV G ρ H ks kvs) : RK kyV G ρ H (ks.map fun kv => if kv.1 = kyV k then (kv.1, v) else kv) (kvs.map fun kv => if kv.1 = k then (kv.1, d) else kv) := by
  induction r with
  | nil => exact .nil
  | @cons q v' d' r s rd' rr ih =>
    rw [List.map_cons, List.map_cons]
    by_cases c : q = k
    · rw [if_pos (show (q, d').1 = k from c), if_pos (show (kyV q, v').1 = kyV k from congrArg kyV c)]
      exact .cons rd ih
    · rw [if_neg (show ¬ (q, d').1 = k from c), if_neg (show ¬ (kyV q, v').1 = kyV k from fun z => c (kyV_inj z))]
      exact .cons rd' ih
theorem RK.snoc {v : V} {d : D} (rd : RD G ρ H v d) (k : Ky) {ks : List (Key × V)} {kvs : List (Ky × D)} (r : RK kyV G ρ H ks kvs) : RK kyV G ρ H (ks ++ [(kyV k, v)]) (kvs ++ [(k, d)]) := by
  induction r with
  | nil => exact .cons rd .nil
  | cons rd' rr ih => exact .cons rd' ih
theorem RK.put {v : V} {d : D} (rd : RD G ρ H v d) (k : Ky) {ks : List (Key × V)} {kvs : List (Ky × D)} (r : RK kyV G ρ H ks kvs) : RK kyV G ρ H (putK ks (kyV k) v) (setK kvs k d) := by
  unfold putK setK
  rw [setK_any r k]
  split
  · exact r.mapSet rd k
  · exact r.snoc rd k
theorem dk_of {n : Nat} {a : Addr} {kvs : List (Ky × D)} (hr : HR G ρ h H) (q : ρ[n]? = some a) (e : dkAt h n = some kvs) : h[n]? = some (.dk kvs) ∧ ∃ ks, H a = some (.dK ks) ∧ RK kyV G ρ H ks kvs := by
  unfold dkAt at e
  split at e
  · rename_i z g
    cases e
    exact ⟨g, hr.ok _ _ _ q g⟩
  · cases e
/-- what dkGet tells -/
theorem dget_ok {vx vy : V} {x y : D} {o : Option D} (hr : HR G ρ h H) (rx : RD G ρ H vx x) (ry : RD G ρ H vy y) (e : dkGet h x y = some o) : ∃ a ov, vx = .ref a ∧ DGet H a vy ov ∧ ((ov = none ∧ o = none) ∨ ∃ v d, ov = some v ∧ o = some d ∧ RD G ρ H v d) := by
  unfold dkGet at e
  split at e
  · rename_i n k q
    split at e
    · rename_i kvs g
      cases e
      cases rx with
      | ref q1 =>
        obtain ⟨_, ks, g1, g2⟩ := dk_of hr q1 g
        have ek := key_ok ry q
        subst ek
        refine ⟨_, _, rfl, DGet.k g1, ?_⟩
        rcases valK_ok g2 k with ⟨h1, h2⟩ | ⟨v, d, h1, h2, h3⟩
        · exact .inl ⟨h1, h2⟩
        · exact .inr ⟨v, d, h1, h2, h3⟩
    · cases e
  · cases e
end
section
variable {X : Cx} {G : Gx} {W : WX} {pos : Pos} {a b c : Expr} {da db dc : Den}
theorem ie_dget (hu : X.A.units + 1 < cLine) (ha : PE X a (tI G W da)) (hb : PE X b (tI G W db)) (hs : NoSl b := by intro _ _; rfl) : PE X (.Subscript a b pos) (tI G W (dDGet da db)) := by
  refine pe_imp (pe_dget hu ha hb hs) fun σ H Q ⟨ρ, h, e, hr, er, p⟩ => ?_
  refine tI.intro hr er (Post.bind p) fun ρ1 h1 H1 x v l1 hr1 r1 p1 => ?_
  refine tI.intro hr1 (er.mono l1) (Post.bind p1) fun ρ2 h2 H2 y w l2 hr2 r2 p2 => ?_
  split at p2
  · rename_i d q
    obtain ⟨p0, ov, e0, g, hh⟩ := dget_ok hr2 (r1.mono l2) r2 q
    rcases hh with ⟨_, z⟩ | ⟨v0, d0, z1, z2, z3⟩
    · cases z
    · cases z2
      subst z1
      exact ⟨p0, v0, e0, g, post_here p2 hr2 z3⟩
  · exact p2.elim
theorem din_gen {f : Option D → Bool} {fv : Option V → Bool} (hf : (fv none = f none) ∧ ∀ v d, fv (some v) = f (some d)) {σ : L2.St} {H : Hp} {Q : VK}
    (p : tI G W (fun e h => (da e h).bind fun y h1 => (db e h1).bind fun x h2 => match dkGet h2 x y with
      | some o => .ok (.bl (f o)) h2
      | none => .bad) σ H Q) : tI G W da σ H fun y H1 => tI G W db σ H1 fun x H2 => ∃ a o, x = .ref a ∧ DGet H2 a y o ∧ Q (.bl (fv o)) H2 := by
  obtain ⟨ρ, h, e, hr, er, p⟩ := p
  refine tI.intro hr er (Post.bind p) fun ρ1 h1 H1 x v l1 hr1 r1 p1 => ?_
  refine tI.intro hr1 (er.mono l1) (Post.bind p1) fun ρ2 h2 H2 y w l2 hr2 r2 p2 => ?_
  split at p2
  · rename_i o q
    obtain ⟨p0, ov, e0, g, hh⟩ := dget_ok hr2 r2 (r1.mono l2) q
    refine ⟨p0, ov, e0, g, ?_⟩
    rcases hh with ⟨z1, z2⟩ | ⟨v0, d0, z1, z2, z3⟩
    · subst z1 z2
      rw [hf.1]
      exact post_here p2 hr2 (.bl _)
    · subst z1 z2
      rw [hf.2 v0 d0]
      exact post_here p2 hr2 (.bl _)
  · exact p2.elim
theorem ie_din (hu : X.A.units + 1 < cLine) (ha : PE X a (tI G W da)) (hb : PE X b (tI G W db)) (hm : behindInMarks .In b = false := by first | rfl | with_unfolding_all rfl) : PE X (.Compare a [.In] [b] pos) (tI G W (dDIn da db)) :=
  pe_imp (pe_cmp (pc_din hu ha hb) hm) fun σ H Q p => din_gen (f := fun o => o.isSome) (fv := fun o => o.isSome) ⟨rfl, fun _ _ => rfl⟩ p
theorem ie_dnin (hu : X.A.units + 1 < cLine) (ha : PE X a (tI G W da)) (hb : PE X b (tI G W db)) (hm : behindInMarks .NotIn b = false := by first | rfl | with_unfolding_all rfl) : PE X (.Compare a [.NotIn] [b] pos) (tI G W (dDNin da db)) :=
  pe_imp (pe_cmp (pc_dnotin hu ha hb) hm) fun σ H Q p => din_gen (f := fun o => !o.isSome) (fv := fun o => !o.isSome) ⟨rfl, fun _ _ => rfl⟩ p
theorem it_of {t : TE} {d : Den} {e : Expr} (p : PT X e (tB t)) (h : ∀ σ H Q, tI G W d σ H Q → t σ H Q) : PT X e (tB' G W (tV d)) := pt_imp p fun σ H Q p => h σ H _ (tV_val p)
theorem it_din (hu : X.A.units + 1 < cLine) (ha : PE X a (tI G W da)) (hb : PE X b (tI G W db)) (hm : behindInMarks .In b = false := by first | rfl | with_unfolding_all rfl) : PT X (.Compare a [.In] [b] pos) (tB' G W (tV (dDIn da db))) :=
  it_of (pt_cmp (pc_din hu ha hb) hm) fun σ H Q p => din_gen (f := fun o => o.isSome) (fv := fun o => o.isSome) ⟨rfl, fun _ _ => rfl⟩ p
theorem it_dnin (hu : X.A.units + 1 < cLine) (ha : PE X a (tI G W da)) (hb : PE X b (tI G W db)) (hm : behindInMarks .NotIn b = false := by first | rfl | with_unfolding_all rfl) : PT X (.Compare a [.NotIn] [b] pos) (tB' G W (tV (dDNin da db))) :=
  it_of (pt_cmp (pc_dnotin hu ha hb) hm) fun σ H Q p => din_gen (f := fun o => !o.isSome) (fv := fun o => !o.isSome) ⟨rfl, fun _ _ => rfl⟩ p
theorem ie_dnewK : PE X (.Dict [] [] pos) (tI G W dNewK) := pe_imp pe_dnewK fun σ H Q ⟨ρ, h, e, hr, er, p⟩ q hq =>
  p (ρ ++ [q]) _ _ (Le.new1 hq) (hr.new hq ⟨[], upd_same, .nil⟩) (.ref (by rw [← hr.len]; simp))
theorem isDk_ok {ρ : List Addr} {h : Hh} {H : Hp} {v : V} {d : D} (hr : HR G ρ h H) (r : RD G ρ H v d) (e : isDk h d = true) : ∃ a, v = .ref a ∧ IsD H a := by
  cases d with
  | ref n =>
    unfold isDk at e
    obtain ⟨kvs, g⟩ := Option.isSome_iff_exists.mp e
    cases r with
    | ref q =>
      obtain ⟨_, ks, g1, _⟩ := dk_of hr q g
      exact ⟨_, rfl, .inl ⟨ks, .inl g1⟩⟩
  | _ => cases e
theorem ie_get1 {apos cpos : Pos} (hu : X.A.units + 1 < cLine) (ha : PE X a (tI G W da)) (hb : PE X b (tI G W db)) (m : M1 X a "get" apos b cpos := by exact ⟨rfl, rfl, rfl, rfl⟩) : PE X (.Call (.Attribute a "get" apos) [b] [] cpos) (tI G W (dGet1 da db)) := by
  refine pe_imp (pe_dget1 hu ha hb m) fun σ H Q ⟨ρ, h, e, hr, er, p⟩ => ?_
  refine tI.intro hr er (Post.bind p) fun ρ1 h1 H1 x v l1 hr1 r1 p1 => ?_
  split at p1
  · rename_i c
    obtain ⟨p0, e0, hd⟩ := isDk_ok hr1 r1 c
    refine ⟨p0, e0, hd, tI.intro hr1 (er.mono l1) (Post.bind p1) fun ρ2 h2 H2 y w l2 hr2 r2 p2 => ?_⟩
    split at p2
    · rename_i o q
      obtain ⟨p1, ov, e1, g, hh⟩ := dget_ok hr2 (r1.mono l2) r2 q
      rw [e0] at e1
      cases e1
      refine ⟨ov, g, ?_⟩
      rcases hh with ⟨z1, z2⟩ | ⟨v0, d0, z1, z2, z3⟩
      · subst z1 z2
        exact post_here p2 hr2 .non
      · subst z1 z2
        exact post_here p2 hr2 z3
    · exact p2.elim
  · exact p1.elim
theorem ie_get2 {apos cpos : Pos} (hu : X.A.units + 1 < cLine) (ha : PE X a (tI G W da)) (hb : PE X b (tI G W db)) (hc : PE X c (tI G W dc)) (m : M2 X a "get" apos b c cpos := by exact ⟨rfl, rfl, rfl, rfl⟩) : PE X (.Call (.Attribute a "get" apos) [b, c] [] cpos) (tI G W (dGet2 da db dc)) := by
  refine pe_imp (pe_dget2 hu ha hb hc m) fun σ H Q ⟨ρ, h, e, hr, er, p⟩ => ?_
  refine tI.intro hr er (Post.bind p) fun ρ1 h1 H1 x v l1 hr1 r1 p1 => ?_
  split at p1
  · rename_i cc
    obtain ⟨p0, e0, hd⟩ := isDk_ok hr1 r1 cc
    refine ⟨p0, e0, hd, tI.intro hr1 (er.mono l1) (Post.bind p1) fun ρ2 h2 H2 y w l2 hr2 r2 p2 => ?_⟩
    refine tI.intro hr2 ((er.mono l1).mono l2) (Post.bind p2) fun ρ3 h3 H3 z u l3 hr3 r3 p3 => ?_
    split at p3
    · rename_i o q
      obtain ⟨p1, ov, e1, g, hh⟩ := dget_ok hr3 ((r1.mono l2).mono l3) (r2.mono l3) q
      rw [e0] at e1
      cases e1
      refine ⟨ov, g, ?_⟩
      rcases hh with ⟨z1, z2⟩ | ⟨v0, d0, z1, z2, z3⟩
      · subst z1 z2
        exact post_here p3 hr3 r3
      · subst z1 z2
        exact post_here p3 hr3 z3
    · exact p3.elim
  · exact p1.elim
/-- d[y] = v lays what dkPut says -/
theorem dput_ok {ρ : List Addr} {h h' : Hh} {H : Hp} {vx vy v : V} {x y d : D} (hr : HR G ρ h H) (rx : RD G ρ H vx x) (ry : RD G ρ H vy y) (rd : RD G ρ H v d) (e : dkPut x y d h = .ok () h') : ∃ a H', vx = .ref a ∧ DPut H a vy v H' ∧ Le G ρ H ρ H' ∧ HR G ρ h' H' := by
  unfold dkPut at e
  split at e
  · rename_i n k q
    split at e
    · rename_i kvs g
      split at e
      · rename_i c
        cases e
        cases rx with
        | ref q1 =>
          obtain ⟨g0, ks, g1, g2⟩ := dk_of hr q1 g
          have ek := key_ok ry q
          subst ek
          rw [SLe, ← g2.length] at c
          have lt := Le.set (G := G) (ho := .dK (putK ks (kyV k) v)) (List.mem_of_getElem? q1) g1 rfl
          exact ⟨_, _, rfl, DPut.k g1 c, lt, hr.set q1 g0 g1 rfl ⟨_, upd_same, (RK.put rd k g2).mono lt⟩⟩
      · cases e
    · cases e
  · cases e
theorem dput_cases {x y d : D} {h : Hh} : dkPut x y d h = .bad ∨ ∃ h', dkPut x y d h = .ok () h' := by
  unfold dkPut
  split
  · split
    · split
      · exact .inr ⟨_, rfl⟩
      · exact .inl rfl
    · exact .inl rfl
  · exact .inl rfl
theorem is_dset {pos' : Pos} (hu : X.A.units + 1 < cLine) (ho : PE X a (tI G W da)) (hi : PE X b (tI G W db)) (hv : PE X c (tI G W dc)) (hs : swapsWith c (some (.Subscript a b pos')) pos.line X.env = pure false := by rfl) :
    PS X (.Assign [.Subscript a b pos'] c pos) (tS G W (sDSet da db dc)) := by
  refine ps_imp (ps_dput hu ho hi hv hs) fun D σ H ⟨ρ, h, e, hr, er, p⟩ => ?_
  refine tI.intro hr er (PostS.sb er p) fun ρ1 h1 H1 d v l1 hr1 r1 p1 => ?_
  refine tI.intro hr1 (er.mono l1) (PostS.sb (er.mono l1) p1) fun ρ2 h2 H2 x vx l2 hr2 r2 p2 => ?_
  have er2 := (er.mono l1).mono l2
  refine tI.intro hr2 er2 (PostS.sb er2 p2) fun ρ3 h3 H3 y vy l3 hr3 r3 p3 => ?_
  rcases dput_cases (x := x) (y := y) (d := d) (h := h3) with q | ⟨h4, q⟩
  · rw [q] at p3
    exact p3.elim
  · rw [q] at p3
    obtain ⟨a0, H4, e0, g, lt, hr4⟩ := dput_ok hr3 (r2.mono l3) r3 ((r1.mono l2).mono l3) q
    exact ⟨a0, H4, e0, g, p3 ρ3 H4 lt hr4 σ ((er2.mono l3).mono lt)⟩
def InS (X : Cx) (G : Gx) (op : Operator) (f : D → D → Hh → Res D) : Prop := ∃ rd : V → V → Hp → VK → Prop, InOp X op rd ∧
  ∀ ρ h H x y dx dy (Q : VK) (W : XK), HR G ρ h H → RD G ρ H x dx → RD G ρ H y dy → Post G ρ H Q W (f dx dy h) → rd x y H Q
theorem in_addI : InS X G .Add oIaddI := ⟨_, in_add, fun ρ h H x y dx dy Q W hr rx ry p => by
  cases rx <;> cases ry <;> first
    | exact False.elim p
    | exact ⟨_, _, rfl, rfl, post_here p hr (.int _)⟩⟩
theorem in_subI : InS X G .Sub oSub := ⟨_, in_sub, fun ρ h H x y dx dy Q W hr rx ry p => by
  cases rx <;> cases ry <;> first
    | exact False.elim p
    | exact ⟨_, _, rfl, rfl, post_here p hr (.int _)⟩⟩
theorem is_daug {tpos : Pos} {op : Operator} {f : D → D → Hh → Res D} (o : InS X G op f) (hu : X.A.units + 1 < cLine) (ho : PE X a (tI G W da)) (hi : PE X b (tI G W db)) (hv : PE X c (tI G W dc))
    (ha : ∀ ov iv new, augStore b ov iv new = (do holding [new, ov, iv] (setItem ov iv new); release [new, ov, iv] []; pure .next) := by intro _ _ _; rfl) : PS X (.AugAssign (.Subscript a b tpos) op c pos) (tS G W (sDAug f da db dc)) := by
  obtain ⟨rd, h1, h2⟩ := o
  refine ps_imp (ps_daug hu ho hi hv h1 ha) fun D σ H ⟨ρ, h, e, hr, er, p⟩ => ?_
  refine tI.intro hr er (PostS.sb er p) fun ρ1 h1' H1 x vx l1 hr1 r1 p1 => ?_
  refine tI.intro hr1 (er.mono l1) (PostS.sb (er.mono l1) p1) fun ρ2 h2' H2 y vy l2 hr2 r2 p2 => ?_
  have er2 := (er.mono l1).mono l2
  split at p2
  · rename_i v0 q
    obtain ⟨a0, ov, e0, g, hh⟩ := dget_ok hr2 (r1.mono l2) r2 q
    rcases hh with ⟨_, z⟩ | ⟨v1, d1, z1, z2, z3⟩
    · cases z
    · cases z2
      subst z1
      refine ⟨a0, v1, e0, g, tI.intro hr2 er2 (PostS.sb er2 p2) fun ρ3 h3 H3 w vw l3 hr3 r3 p3 => ?_⟩
      have er3 := er2.mono l3
      have p3' := PostS.sb er3 p3
      refine h2 ρ3 h3 H3 v1 vw _ w _ (fun c d H' => W c d σ H') hr3 (z3.mono l3) r3 ?_
      cases q2 : f v0 w h3 with
      | bad => rw [q2] at p3'; exact p3'
      | exc c fs h4 => rw [q2] at p3'; exact p3'
      | ok z h4 =>
        rw [q2] at p3'
        intro ρ4 vz H4 l4 hr4 r4
        have p4 : PostS G ρ4 H4 D W ((dkPut x y z h4).sb e fun _ h5 => .ok (.nx e) h5) := p3' ρ4 H4 l4 hr4
        rcases dput_cases (x := x) (y := y) (d := z) (h := h4) with q3 | ⟨h5, q3⟩
        · rw [q3] at p4
          exact p4.elim
        · rw [q3] at p4
          obtain ⟨a1, H5, e1, g5, lt, hr5⟩ := dput_ok hr4 (((r1.mono l2).mono l3).mono l4) ((r2.mono l3).mono l4) r4 q3
          rw [e0] at e1
          cases e1
          exact ⟨H5, g5, p4 ρ4 H5 lt hr5 σ ((er3.mono l4).mono lt)⟩
  · exact p2.elim
end
end PI
/-! ## PiE -/
set_option Elab.async false
set_option linter.all false
set_option maxRecDepth 100000
set_option maxHeartbeats 1000000
set_option autoImplicit false
/-! PI: zip, enumerate, str, index. -/
namespace PI
open PySem L2
section
variable {X : Cx} {G : Gx} {W : WX} {pos p : Pos} {a b : Expr} {da db : Den}
theorem zip_items {ρ0 : List Addr} {H0 : Hp} {p q : Addr} {vs ws : List V} {ds es : List D} (hs : SqT G.K H0 p vs) (r : RDs G ρ0 H0 vs ds) (hs2 : SqT G.K H0 q ws) (r2 : RDs G ρ0 H0 ws es) : ItOk G ρ0 H0 (.its (zipD ds es)) (RZ.ItzT G.K p q) := by
  intro ρ h H l hr _ i
  have a1 := l.tup _ _ hs
  have a2 := l.tup _ _ hs2
  have b1 := r.mono l
  have b2 := r2.mono l
  refine ⟨fun d e => ?_, fun hi => ⟨vs, ws, a1, a2, ?_⟩⟩
  · obtain ⟨x, y, ex, ey, rfl⟩ := zipD_at (show (zipD ds es)[i]? = some d from e)
    obtain ⟨v, g1, g2⟩ := b1.get ex
    obtain ⟨w, g3, g4⟩ := b2.get ey
    refine ⟨⟨vs, ws, v, w, a1, a2, g1, g3⟩, fun z H' hy => ?_⟩
    obtain ⟨T, v', w', rfl, hT, rfl, f1, f2⟩ := hy
    have e1 := f1 vs a1
    have e2 := f2 ws a2
    rw [g1] at e1
    rw [g3] at e2
    cases e1
    cases e2
    have lt := Le.new (G := G) (ρ := ρ) (ho := .tup [v, w]) hT
    exact ⟨ρ, lt, hr.beside hT, .tup (SqT.of upd_same) ((RDs.cons g2 (.cons g4 .nil)).mono lt)⟩
  · have := zipD_len ds es
    have hi : (zipD ds es).length ≤ i := hi
    rw [b1.length, b2.length]
    omega
theorem zip_lists {ρ0 : List Addr} {H0 : Hp} {m n : Nat} {p q : Addr} {ds es : List D} (q1 : ρ0[m]? = some p) (q2 : ρ0[n]? = some q) : ItOk G ρ0 H0 (.zpl m ds n es) (Itz G.K p q) := by
  intro ρ h H l hr st i
  have q1' := l.at q1
  have q2' := l.at q2
  have e : lstAt h m = some ds ∧ lstAt h n = some es := by
    simp only [Wk.still] at st
    split at st
    · rename_i us vs g1 g2
      rw [Bool.and_eq_true] at st
      exact ⟨by rw [g1, D.sameL_eq _ _ st.1], by rw [g2, D.sameL_eq _ _ st.2]⟩
    · cases st
  obtain ⟨vs, g1, b1⟩ := sql_of hr q1' e.1
  obtain ⟨ws, g2, b2⟩ := sql_of hr q2' e.2
  have a1 : SqL G.K H p vs := SqL.of g1
  have a2 : SqL G.K H q ws := SqL.of g2
  refine ⟨fun d e => ?_, fun hi => ⟨vs, ws, a1, a2, ?_⟩⟩
  · obtain ⟨x, y, ex, ey, rfl⟩ := zipD_at (show (zipD ds es)[i]? = some d from e)
    obtain ⟨v, g1, g2⟩ := b1.get ex
    obtain ⟨w, g3, g4⟩ := b2.get ey
    refine ⟨⟨vs, ws, v, w, a1, a2, g1, g3⟩, fun z H' hy => ?_⟩
    obtain ⟨T, v', w', rfl, hT, rfl, f1, f2⟩ := hy
    have e1 := f1 vs a1
    have e2 := f2 ws a2
    rw [g1] at e1
    rw [g3] at e2
    cases e1
    cases e2
    have lt := Le.new (G := G) (ρ := ρ) (ho := .tup [v, w]) hT
    exact ⟨ρ, lt, hr.beside hT, .tup (SqT.of upd_same) ((RDs.cons g2 (.cons g4 .nil)).mono lt)⟩
  · have := zipD_len ds es
    have hi : (zipD ds es).length ≤ i := hi
    rw [b1.length, b2.length]
    omega
theorem iw_zip {elts : List Expr} {kk : Nat} {tpos : Pos} (hK : G.K = X.K) (ha : PE X a (tI G W da)) (hb : PE X b (tI G W db)) (hm : X.mg "zip" = none) (hg : Gl X "zip" := by rfl)
    (he : starEach [a, b] X.env = (false, eval a X.env) :: starEach [b] X.env := by rfl) (he2 : starEach [b] X.env = (false, eval b X.env) :: starEach [] X.env := by rfl) (hpl : (backTo pos (starEach [b] X.env)).any (·.1) = false := by rfl) :
    PI X (.Tuple elts kk tpos) (.Call (.Name "zip" p) [a, b] [] pos) (tW G W (wZip da db)) := by
  refine pi_imp (RZ.pi_zipA hg hm (pa_cons ha (pa_cons hb pa_nil he2) he) he hpl) fun σ H R ⟨ρ, h, e, hr, er, p⟩ => ?_
  refine tI.intro hr er (PostW.bind p) fun ρ1 h1 H1 x v l1 hr1 r1 p1 => ?_
  refine tI.intro hr1 (er.mono l1) (PostW.bind p1) fun ρ2 h2 H2 y w l2 hr2 r2 p2 => ?_
  have r1' := r1.mono l2
  cases r1' with
  | tup s1 q1 =>
    cases r2 with
    | tup s2 q2 => exact ⟨_, _, _, _, rfl, .inr ⟨hK ▸ s1, hK ▸ s2, p2 ρ2 H2 _ Le.refl hr2 (hK ▸ zip_items s1 q1 s2 q2)⟩⟩
    | _ => exact False.elim p2
  | ref q1 =>
    cases r2 with
    | ref q2 =>
      simp only at p2
      split at p2
      · rename_i xs ys g1 g2
        obtain ⟨vs, g3, _⟩ := sql_of hr2 q1 g1
        obtain ⟨ws, g4, _⟩ := sql_of hr2 q2 g2
        exact ⟨_, _, _, _, rfl, .inl ⟨SqL.of g3, SqL.of g4, p2 ρ2 H2 _ Le.refl hr2 (hK ▸ zip_lists q1 q2)⟩⟩
      · exact p2.elim
    | _ => exact False.elim p2
  | _ => exact False.elim p2
end
section
variable {X : Cx} {G : Gx}
theorem cs_str : CallS X G (.type "str") bStr := ⟨_, call_str_int, fun ρ h H xs ds Q W hr r p => by
  cases r with
  | nil => exact False.elim p
  | cons a r' =>
    cases r' with
    | cons _ _ => cases a <;> exact False.elim p
    | nil =>
      cases a with
      | int i =>
        simp only [bStr] at p
        split at p
        · rename_i c
          exact ⟨i, rfl, c, post_here p hr (rd_str (by
            show (Str.ofString (toString i)).cps.toList = decStr i
            rw [Str.ofString_eq_toList]
            rfl))⟩
        · exact p.elim
      | _ => exact False.elim p⟩
theorem idxOf_ok {d : D} : ∀ {xs : List D} {j : Nat}, idxOf d xs = some j → ∃ z, xs[j]? = some z ∧ D.eqv z d = true ∧ ∀ m z', m < j → xs[m]? = some z' → D.eqv z' d = false
  | [], _, e => by cases e
  | y :: ys, j, e => by
    rw [idxOf] at e
    split at e
    · rename_i c
      cases e
      exact ⟨y, rfl, c, fun m _ hm => absurd hm (by omega)⟩
    · rename_i c
      rw [Option.map_eq_some_iff] at e
      obtain ⟨k, e1, rfl⟩ := e
      obtain ⟨z, h1, h2, h3⟩ := idxOf_ok e1
      refine ⟨z, by simpa using h1, h2, fun m z' hm hz => ?_⟩
      cases m with
      | zero =>
        simp at hz
        rw [← hz]
        simpa using c
      | succ m => exact h3 m z' (by omega) (by simpa using hz)
theorem toPL_at : ∀ {xs : List D} {j : Nat} {z : D}, xs[j]? = some z → (toPL xs)[j]? = some (toP z)
  | [], _, _, e => by simp at e
  | x :: xs, 0, z, e => by
    simp at e
    rw [← e]
    rfl
  | x :: xs, j + 1, z, e => by
    have q := toPL_at (xs := xs) (j := j) (z := z) (by simpa using e)
    simpa [toPL] using q
theorem toPL_atR : ∀ {xs : List D} {j : Nat} {y : PyData}, (toPL xs)[j]? = some y → ∃ z, xs[j]? = some z ∧ y = toP z
  | [], _, _, e => by simp [toPL] at e
  | x :: xs, 0, y, e => by
    simp [toPL] at e
    exact ⟨x, rfl, e.symm⟩
  | x :: xs, j + 1, y, e => by
    obtain ⟨z, h1, h2⟩ := toPL_atR (xs := xs) (j := j) (y := y) (by simpa [toPL] using e)
    exact ⟨z, by simpa using h1, h2⟩
theorem flatL_at : ∀ {xs : List D} {j : Nat} {z : D}, D.flatL xs = true → xs[j]? = some z → z.flat = true
  | [], _, _, _, e => by simp at e
  | x :: xs, 0, z, h, e => by
    simp at e
    rw [D.flatL, Bool.and_eq_true] at h
    rw [← e]
    exact h.1
  | x :: xs, j + 1, z, h, e => by
    rw [D.flatL, Bool.and_eq_true] at h
    exact flatL_at h.2 (by simpa using e)
theorem ms_index (hK : G.K = X.K) (hu : X.A.units + 65 < cLine) : MethS X G "list.index" mIndex := ⟨_, mt_indexD hu, fun ρ h H x dx xs ds Q W hr rx r p => by
  cases r with
  | nil => exact False.elim p
  | cons a r' =>
    cases r' with
    | cons _ _ => exact False.elim p
    | nil =>
      simp only [mIndex] at p
      split at p
      · rename_i ys e1
        split at p
        · rename_i f
          rw [Bool.and_eq_true] at f
          split at p
          · rename_i j e2
            obtain ⟨l, vs, rfl, h1, r1⟩ := list_ok hr rx e1
            obtain ⟨z, g1, g2, g3⟩ := idxOf_ok e2
            have ff := fit_flatL f.1
            have fd := fit_flat f.2
            refine ⟨_, _, _, _, j, _, rfl, rfl, hK ▸ .lst h1 (rds_dp r1 ff), hK ▸ rd_dp a fd, shaped_fitL f.1, shaped_fit f.2, toPL_at g1, ?_, fun m z' hm hz => ?_, post_here p hr (.int _)⟩
            · rw [toP_eqv _ _ (flatL_at ff g1) fd]
              exact g2
            · obtain ⟨y, q1, rfl⟩ := toPL_atR hz
              rw [toP_eqv _ _ (flatL_at ff q1) fd]
              exact g3 m y hm q1
          · exact p.elim
        · exact p.elim
      · exact p.elim⟩
end
end PI
/-! ## PiZ -/
set_option Elab.async false
set_option linter.all false
set_option maxRecDepth 100000
set_option maxHeartbeats 2000000
set_option autoImplicit false
/-! PI: list(zip(x, y)) of two tuples. -/
namespace PI
open PySem
/-! ### next, while the tuple that was given out is still there -/
section
variable {prog : Program} {w : World} {A : Around} {E : Value → Shared → Prop} {s : Shared} {z TI TO T i1 i2 l1 l2 : Addr} {f : Bool} {oT : Obj} {k1 k2 : Nat} {xs ys : Array Value} {x y : Value}
theorem zh_item {Q : Value → Shared → Prop} (D : ZipApart z TI TO i1 i2 l1 l2) (hz : IsZipHeld s.heap z TI TO T f) (hT : s.heap.get? T = some oT) (hI : IsPair s.heap TI (.ref i1) (.ref i2))
    (h1 : s.heap.IsTupleIter i1 l1 k1) (h2 : s.heap.IsTupleIter i2 l2 k2) (hl1 : s.heap.IsTuple l1 xs) (hl2 : s.heap.IsTuple l2 ys) (hx : xs[k1]? = some x) (hy : ys[k2]? = some y)
    (hQ : ∀ g, IsZipHeld g z TI TO T true → g.IsTupleIter i1 l1 (k1 + 1) → g.IsTupleIter i2 l2 (k2 + 1) → IsPair g s.heap.objs.size x y → g.objs.size = s.heap.objs.size + 1 →
      (∀ c o, c ≠ z → c ≠ i1 → c ≠ i2 → s.heap.get? c = some o → g.get? c = some o) → Q (.ref s.heap.objs.size) { s with heap := g }) :
    wpAny (model prog w) A (Builtin.«zip.__next__» ⟨[.ref z], []⟩) (fun fin t => ∃ v, fin = .done (.ret v) ∧ Q v t) E s := by
  show wpAny _ _ (field (.ref z) 2 >>= _) _ _ _
  refine wpAny_bind (wpAny_field hz rfl (x := .bool false) rfl ?_)
  show wpAny _ _ (field (.ref z) 3 >>= _) _ _ _
  refine wpAny_bind (wpAny_field hz rfl (x := .ref TI) rfl (wpAny_bind (wpAny_seqItems hI rfl ?_)))
  show wpAny _ _ (Builtin.SmallTypes.ownedTupleIsFree (.ref z) >>= _) _ _ _
  refine wpAny_bind (wpAny_tupleHeld_zip hz hT fun g1 hz1 hs1 => ?_)
  simp only [Bool.false_eq_true, if_false]
  refine wpAny_bind ?_
  rw [← Array.forIn_toList]
  simp only [List.forIn_cons, List.forIn_nil]
  refine wpAny_bind (wpAny_bind (wpAny_holding ?_))
  show wpAny _ _ (Builtin.SmallTypes.nextOf (.ref i1) >>= _) _ _ _
  refine wpAny_bind (RZ.nextOf_tuple_item (s := { s with heap := g1 }) (h1.at fun o e => hs1.extBut _ _ D.i1z e) (show g1.IsTuple l1 xs from hl1.at fun o e => hs1.extBut _ _ D.l1z e) hx fun g2 h1' hs2 => wpAny_pure (wpAny_pure ?_))
  refine wpAny_bind (wpAny_bind (wpAny_holding ?_))
  show wpAny _ _ (Builtin.SmallTypes.nextOf (.ref i2) >>= _) _ _ _
  refine wpAny_bind (RZ.nextOf_tuple_item (s := { s with heap := g2 }) (h2.at fun o e => hs2.extBut _ _ D.i12.symm (hs1.extBut _ _ D.i2z e)) (show g2.IsTuple l2 ys from hl2.at fun o e => hs2.extBut _ _ D.l2i1 (hs1.extBut _ _ D.l2z e)) hy fun g3 h2' hs3 => wpAny_pure (wpAny_pure (wpAny_pure ?_)))
  show wpAny _ _ (newTuple [x, y] >>= _) _ _ _
  refine wpAny_bind (wpAny_newTuple ?_)
  have hsz : g3.objs.size = s.heap.objs.size := by rw [hs3.1, hs2.1, hs1.1]
  have hz3 : IsZipHeld g3 z TI TO T true := hs3.extBut _ _ D.i2z.symm (hs2.extBut _ _ D.i1z.symm hz1)
  have hk : ∀ c o, c ≠ z → c ≠ i1 → c ≠ i2 → s.heap.get? c = some o → g3.get? c = some o := fun c o c1 c2 c3 e => hs3.extBut _ _ c3 (hs2.extBut _ _ c2 (hs1.extBut _ _ c1 e))
  have h1'' : g3.IsTupleIter i1 l1 (k1 + 1) := h1'.at fun o e => hs3.extBut _ _ D.i12 e
  refine wpAny_pure ⟨_, rfl, ?_⟩
  show Q (.ref g3.objs.size) _
  have hp : IsPair (g3.push { cls := .type "tuple", data := .seq #[x, y] }) g3.objs.size x y := Heap.get?_push_size _ rfl
  have hz4 : (g3.push { cls := .type "tuple", data := .seq #[x, y] }).objs.size = g3.objs.size + 1 := Heap.size_push ..
  rw [hsz] at hp hz4 ⊢
  exact hQ _ (Heap.get?_push_of_some _ hz3) (h1''.at fun o e => Heap.get?_push_of_some _ e) (h2'.at fun o e => Heap.get?_push_of_some _ e) hp hz4 fun c o c1 c2 c3 e => Heap.get?_push_of_some _ (hk c o c1 c2 c3 e)
theorem zh_end {Q : Fin → Shared → Prop} (hh : A.handled = none) (D : ZipApart z TI TO i1 i2 l1 l2) (hz : IsZipHeld s.heap z TI TO T f) (hT : s.heap.get? T = some oT) (hI : IsPair s.heap TI (.ref i1) (.ref i2))
    (h1 : s.heap.IsTupleIter i1 l1 k1) (h2 : s.heap.IsTupleIter i2 l2 k2) (hl1 : s.heap.IsTuple l1 xs) (hl2 : s.heap.IsTuple l2 ys) (hend : xs[k1]? = none ∨ ys[k2]? = none)
    (hE : ∀ g e, (∀ c o, c ≠ z → c ≠ i1 → c ≠ i2 → s.heap.get? c = some o → g.get? c = some o) → (∃ o, g.get? e = some o ∧ o.cls = .type "StopIteration") → E (.ref e) { s with heap := g }) :
    wpAny (model prog w) A (Builtin.«zip.__next__» ⟨[.ref z], []⟩) Q E s := by
  show wpAny _ _ (field (.ref z) 2 >>= _) _ _ _
  refine wpAny_bind (wpAny_field hz rfl (x := .bool false) rfl ?_)
  show wpAny _ _ (field (.ref z) 3 >>= _) _ _ _
  refine wpAny_bind (wpAny_field hz rfl (x := .ref TI) rfl (wpAny_bind (wpAny_seqItems hI rfl ?_)))
  show wpAny _ _ (Builtin.SmallTypes.ownedTupleIsFree (.ref z) >>= _) _ _ _
  refine wpAny_bind (wpAny_tupleHeld_zip hz hT fun g1 hz1 hs1 => ?_)
  simp only [Bool.false_eq_true, if_false]
  refine wpAny_bind ?_
  rw [← Array.forIn_toList]
  simp only [List.forIn_cons, List.forIn_nil]
  refine wpAny_bind (wpAny_bind (wpAny_holding ?_))
  show wpAny _ _ (Builtin.SmallTypes.nextOf (.ref i1) >>= _) _ _ _
  have a1 : g1.IsTupleIter i1 l1 k1 := h1.at fun o e => hs1.extBut _ _ D.i1z e
  have b1 : g1.IsTuple l1 xs := hl1.at fun o e => hs1.extBut _ _ D.l1z e
  cases hx : xs[k1]? with
  | none =>
    refine wpAny_bind (RZ.nextOf_tuple_end (s := { s with heap := g1 }) hh a1 b1 hx fun g2 e hs2 he => ?_)
    exact hE g2 e (fun c o c1 c2 _ x => hs2 _ _ c2 (hs1.extBut _ _ c1 x)) he
  | some x =>
    have hy : ys[k2]? = none := by
      rcases hend with h | h
      · rw [hx] at h
        cases h
      · exact h
    refine wpAny_bind (RZ.nextOf_tuple_item (s := { s with heap := g1 }) a1 b1 hx fun g2 h1' hs2 => wpAny_pure (wpAny_pure ?_))
    refine wpAny_bind (wpAny_bind (wpAny_holding ?_))
    show wpAny _ _ (Builtin.SmallTypes.nextOf (.ref i2) >>= _) _ _ _
    refine wpAny_bind (RZ.nextOf_tuple_end (s := { s with heap := g2 }) hh (h2.at fun o e => hs2.extBut _ _ D.i12.symm (hs1.extBut _ _ D.i2z e)) (show g2.IsTuple l2 ys from hl2.at fun o e => hs2.extBut _ _ D.l2i1 (hs1.extBut _ _ D.l2z e)) hy fun g3 e hs3 he => ?_)
    exact hE g3 e (fun c o c1 c2 c3 x => hs3 _ _ c3 (hs2.extBut _ _ c2 (hs1.extBut _ _ c1 x))) he
end
/-- the zip z over the tuples l1, l2 at its i-th turn -/
def ZS (z TI TO i1 i2 l1 l2 : Addr) (xs ys : Array Value) (h : Heap) (i : Nat) : Prop :=
  IsPair h TI (.ref i1) (.ref i2) ∧ h.IsTupleIter i1 l1 i ∧ h.IsTupleIter i2 l2 i ∧ h.IsTuple l1 xs ∧ h.IsTuple l2 ys ∧
    ((IsZip h z TI TO .none ∧ ∃ a b, IsPair h TO a b) ∨ ∃ (T : Addr) (f : Bool) (oT : Obj), IsZipHeld h z TI TO T f ∧ h.get? T = some oT ∧ T ≠ z ∧ T ≠ TO ∧ T ≠ i1 ∧ T ≠ i2)
section
variable {prog : Program} {w : World} {A : Around} {E : Value → Shared → Prop} {s : Shared} {z TI TO i1 i2 l1 l2 : Addr} {i : Nat} {xs ys : Array Value} {x y : Value}
theorem ZS.move {h h' : Heap} (D : ZipApart z TI TO i1 i2 l1 l2) (st : ZS z TI TO i1 i2 l1 l2 xs ys h i) (k : ∀ b o, h.get? b = some o → (b = TI ∨ b = i1 ∨ b = i2 ∨ b = l1 ∨ b = l2 ∨ b = z ∨ b = TO ∨ True) → h'.get? b = some o) : ZS z TI TO i1 i2 l1 l2 xs ys h' i := by
  obtain ⟨a1, a2, a3, a4, a5, a6⟩ := st
  have kk : ∀ b o, h.get? b = some o → h'.get? b = some o := fun b o e => k b o e (by simp)
  refine ⟨kk _ _ a1, a2.at fun o e => kk _ o e, a3.at fun o e => kk _ o e, a4.at fun o e => kk _ o e, a5.at fun o e => kk _ o e, ?_⟩
  rcases a6 with ⟨b1, a, b, b2⟩ | ⟨T, f, oT, b1, b2, r⟩
  · exact .inl ⟨kk _ _ b1, a, b, kk _ _ b2⟩
  · exact .inr ⟨T, f, oT, kk _ _ b1, kk _ _ b2, r⟩
/-- what is not S stays: S is none of the zip's -/
theorem ZS.off {h h' : Heap} {S : Addr} (D : ZipApart z TI TO i1 i2 l1 l2) (st : ZS z TI TO i1 i2 l1 l2 xs ys h i) (hS : TI ≠ S ∧ i1 ≠ S ∧ i2 ≠ S ∧ l1 ≠ S ∧ l2 ≠ S ∧ z ≠ S ∧ TO ≠ S) (hT : ∀ o, h.get? S = some o → ∃ o', h'.get? S = some o') (k : ∀ b o, b ≠ S → h.get? b = some o → h'.get? b = some o) : ZS z TI TO i1 i2 l1 l2 xs ys h' i := by
  obtain ⟨a1, a2, a3, a4, a5, a6⟩ := st
  obtain ⟨s1, s2, s3, s4, s5, s6, s7⟩ := hS
  refine ⟨k _ _ s1 a1, a2.at fun o e => k _ o s2 e, a3.at fun o e => k _ o s3 e, a4.at fun o e => k _ o s4 e, a5.at fun o e => k _ o s5 e, ?_⟩
  rcases a6 with ⟨b1, a, b, b2⟩ | ⟨T, f, oT, b1, b2, r⟩
  · exact .inl ⟨k _ _ s6 b1, a, b, k _ _ s7 b2⟩
  · by_cases e : T = S
    · subst e
      obtain ⟨o', q⟩ := hT _ b2
      exact .inr ⟨T, f, o', k _ _ s6 b1, q, r⟩
    · exact .inr ⟨T, f, oT, k _ _ s6 b1, k _ _ e b2, r⟩
theorem ZS.lt {h : Heap} (st : ZS z TI TO i1 i2 l1 l2 xs ys h i) : z < h.objs.size ∧ i1 < h.objs.size ∧ i2 < h.objs.size := by
  obtain ⟨a1, ⟨_, e1, _⟩, ⟨_, e2, _⟩, a4, a5, a6⟩ := st
  refine ⟨?_, Heap.lt_size e1, Heap.lt_size e2⟩
  rcases a6 with ⟨b1, _⟩ | ⟨T, f, oT, b1, _⟩
  · exact Heap.lt_size b1
  · exact Heap.lt_size b1
theorem zs_item {Q : Option Value → Shared → Prop} (D : ZipApart z TI TO i1 i2 l1 l2) (hTO : TO < s.heap.objs.size) (st : ZS z TI TO i1 i2 l1 l2 xs ys s.heap i) (hx : xs[i]? = some x) (hy : ys[i]? = some y)
    (hQ : ∀ g, ZS z TI TO i1 i2 l1 l2 xs ys g (i + 1) → IsPair g s.heap.objs.size x y → g.objs.size = s.heap.objs.size + 1 → (∀ c o, c ≠ z → c ≠ TO → c ≠ i1 → c ≠ i2 → s.heap.get? c = some o → g.get? c = some o) → Q (some (.ref s.heap.objs.size)) { s with heap := g }) :
    wpAny (model prog w) A (pyNext (.ref z)) Q E s := by
  obtain ⟨lz, l_1, l_2⟩ := st.lt
  obtain ⟨a1, a2, a3, a4, a5, a6⟩ := st
  rcases a6 with ⟨b1, a, b, b2⟩ | ⟨T, f, oT, b1, b2, r1, r2, r3, r4⟩
  · refine RZ.pyNext_zipT_item D b1 a1 b2 a2 a3 a4 a5 hx hy fun g c1 c2 c3 c4 c5 c6 c7 => hQ g ⟨?_, c3, c4, ?_, ?_, .inr ⟨_, false, _, c1, c5, Nat.ne_of_gt lz, Nat.ne_of_gt hTO, Nat.ne_of_gt l_1, Nat.ne_of_gt l_2⟩⟩ c5 c6 c7
    · exact c7 _ _ D.TIz D.TITO D.TIi1 D.TIi2 a1
    · exact a4.at fun o e => c7 _ _ D.l1z D.l1TO D.l1i1 D.l1i2 e
    · exact a5.at fun o e => c7 _ _ D.l2z D.l2TO D.l2i1 D.l2i2 e
  · have hTy : s.TypeIs (.ref z) "zip" := ⟨_, b1, rfl⟩
    unfold pyNext
    refine wpAny_bind (wpAny_attempt (wpAny_callSpecial?_slot (name := Str.ofString "__next__") hTy F.slot_zip_next (wpAny_call_entry F.slot_zip_next hTy F.entry_zip_next
      (zh_item D b1 b2 a1 a2 a3 a4 a5 hx hy fun g c1 c3 c4 c5 c6 c7 => wpAny_pure (hQ g ⟨?_, c3, c4, ?_, ?_, .inr ⟨T, true, oT, c1, c7 _ _ r1 r3 r4 b2, r1, r2, r3, r4⟩⟩ c5 c6 fun c o d1 _ d3 d4 => c7 c o d1 d3 d4)) (F.args_zip_next_1 _))))
    · exact c7 _ _ D.TIz D.TIi1 D.TIi2 a1
    · exact a4.at fun o e => c7 _ _ D.l1z D.l1i1 D.l1i2 e
    · exact a5.at fun o e => c7 _ _ D.l2z D.l2i1 D.l2i2 e
theorem zs_end {Q : Option Value → Shared → Prop} (hh : A.handled = none) (D : ZipApart z TI TO i1 i2 l1 l2) (st : ZS z TI TO i1 i2 l1 l2 xs ys s.heap i) (hend : xs[i]? = none ∨ ys[i]? = none)
    (hQ : ∀ g, (∀ c o, c ≠ z → c ≠ TO → c ≠ i1 → c ≠ i2 → s.heap.get? c = some o → g.get? c = some o) → Q none { s with heap := g }) : wpAny (model prog w) A (pyNext (.ref z)) Q E s := by
  obtain ⟨a1, a2, a3, a4, a5, a6⟩ := st
  rcases a6 with ⟨b1, a, b, b2⟩ | ⟨T, f, oT, b1, b2, r⟩
  · exact RZ.pyNext_zipT_end hh D b1 a1 b2 a2 a3 a4 a5 hend hQ
  · have hTy : s.TypeIs (.ref z) "zip" := ⟨_, b1, rfl⟩
    unfold pyNext
    refine wpAny_bind (wpAny_attempt (wpAny_callSpecial?_slot (name := Str.ofString "__next__") hTy F.slot_zip_next (wpAny_call_entry F.slot_zip_next hTy F.entry_zip_next
      (zh_end hh D b1 b2 a1 a2 a3 a4 a5 hend fun g e hk he => ?_) (F.args_zip_next_1 _))))
    obtain ⟨o, ho, hc⟩ := he
    exact wpAny_bind (wpAny_isInstance (T := "StopIteration") (b := true) ⟨o, ho, hc⟩ isSubtype_stop (wpAny_pure (hQ g fun c o d1 _ d3 d4 => hk c o d1 d3 d4)))
end
/-! ### the walk of list.extend -/
/-- the tuples that were given out, one above the other -/
structure ZG (xs ys : Array Value) (lo : Addr) (h : Heap) (as : List Addr) : Prop where
  rise : as.Pairwise (· < ·)
  above : ∀ a ∈ as, lo < a
  pairs : ∀ (j : Nat) (a : Addr), as[j]? = some a → ∃ x y, xs[j]? = some x ∧ ys[j]? = some y ∧ IsPair h a x y
theorem ZG.there {xs ys : Array Value} {lo : Addr} {h : Heap} {as : List Addr} (g : ZG xs ys lo h as) {a : Addr} (ha : a ∈ as) : a < h.objs.size := by
  obtain ⟨j, hj⟩ := List.mem_iff_getElem?.mp ha
  obtain ⟨_, _, _, _, e⟩ := g.pairs j a hj
  exact Heap.lt_size e
section
variable {prog : Program} {w : World} {A : Around} {s : Shared} {R : Result → Shared → Prop} {z TI TO i1 i2 l1 l2 : Addr} {xs ys : Array Value}
theorem zl_loop {S : Addr} (hh : A.handled = none) (D : ZipApart z TI TO i1 i2 l1 l2) (hS : TI ≠ S ∧ i1 ≠ S ∧ i2 ≠ S ∧ l1 ≠ S ∧ l2 ≠ S ∧ z ≠ S ∧ TO ≠ S) (hzS : z < S ∧ TO < S ∧ i1 < S ∧ i2 < S) (hn : min xs.size ys.size ≤ sizeLine) (res : Value) {h0 : Heap}
    (hR : ∀ g acc c as, (∀ b o, b ≠ S → b ≠ z → b ≠ TO → b ≠ i1 → b ≠ i2 → h0.get? b = some o → g.get? b = some o) → g.get? S = some { cls := .type "list", dict := none, data := .seq acc c, slots := #[] } → as.length = min xs.size ys.size → ZG xs ys S g as →
      acc.toList = as.map Value.ref → R (.ok (.ret res)) { s with heap := g }) :
    ∀ (k i : Nat) (h : Heap) (c : Nat) (acc : Array Value) (as : List Addr), min xs.size ys.size - i = k → i ≤ min xs.size ys.size → ZS z TI TO i1 i2 l1 l2 xs ys h i → (∀ b o, b ≠ S → b ≠ z → b ≠ TO → b ≠ i1 → b ≠ i2 → h0.get? b = some o → h.get? b = some o) →
      h.get? S = some { cls := .type "list", dict := none, data := .seq acc c, slots := #[] } → acc.toList = as.map Value.ref → as.length = i → ZG xs ys S h as →
      codeAny (model prog w) A (.builtin "list.extend.loop" ⟨[.ref S, .ref z, res], []⟩) R { s with heap := h } := by
  obtain ⟨z1, z2, z3, z4⟩ := hzS
  intro k
  induction k with
  | zero =>
    intro i h c acc as hk hi hst hkeep hSo hacc hal hG
    have hin : i = min xs.size ys.size := by omega
    refine codeAny_builtin PySem.F.entry_extend_loop ?_
    rw [Around.under_plainId PySem.F.plain_extend_loop _]
    show wpAny _ A.in1 (pyNext (.ref z) >>= _) _ _ _
    have hend : xs[i]? = none ∨ ys[i]? = none := by
      rcases Nat.le_total xs.size ys.size with q | q
      · exact .inl (Array.getElem?_eq_none (by omega))
      · exact .inr (Array.getElem?_eq_none (by omega))
    refine wpAny_bind (zs_end (s := { s with heap := h }) (A := A.in1) hh D hst hend fun g hg => ?_)
    have hg : ∀ c o, c ≠ z → c ≠ TO → c ≠ i1 → c ≠ i2 → h.get? c = some o → g.get? c = some o := hg
    refine wpAny_pure (hR g acc c as (fun b o h1 h2 h3 h4 h5 e => hg b o h2 h3 h4 h5 (hkeep b o h1 h2 h3 h4 h5 e)) (hg S _ (Ne.symm hS.2.2.2.2.2.1) (Ne.symm hS.2.2.2.2.2.2) (Ne.symm hS.2.1) (Ne.symm hS.2.2.1) hSo) (by omega) ⟨hG.rise, hG.above, fun j a hj => ?_⟩ hacc)
    obtain ⟨x, y, e1, e2, e3⟩ := hG.pairs j a hj
    have ha := hG.above a (List.mem_of_getElem? hj)
    exact ⟨x, y, e1, e2, hg a _ (Nat.ne_of_gt (Nat.lt_trans z1 ha)) (Nat.ne_of_gt (Nat.lt_trans z2 ha)) (Nat.ne_of_gt (Nat.lt_trans z3 ha)) (Nat.ne_of_gt (Nat.lt_trans z4 ha)) e3⟩
  | succ k ih =>
    intro i h c acc as hk hi hst hkeep hSo hacc hal hG
    have hlt : i < min xs.size ys.size := by omega
    obtain ⟨x, hx⟩ : ∃ p, xs[i]? = some p := ⟨xs[i]'(by omega), Array.getElem?_eq_getElem _⟩
    obtain ⟨y, hy⟩ : ∃ p, ys[i]? = some p := ⟨ys[i]'(by omega), Array.getElem?_eq_getElem _⟩
    have hsz : acc.size = i := by rw [← Array.length_toList, hacc, List.length_map, hal]
    have hSl : S < h.objs.size := Heap.lt_size hSo
    refine codeAny_builtin PySem.F.entry_extend_loop ?_
    rw [Around.under_plainId PySem.F.plain_extend_loop _]
    show wpAny _ A.in1 (pyNext (.ref z) >>= _) _ _ _
    refine wpAny_bind (zs_item (s := { s with heap := h }) D (Nat.lt_trans z2 hSl) hst hx hy fun g hst' hp hgs hkp => ?_)
    have hp : IsPair g h.objs.size x y := hp
    have hgs : g.objs.size = h.objs.size + 1 := hgs
    have hkp : ∀ c o, c ≠ z → c ≠ TO → c ≠ i1 → c ≠ i2 → h.get? c = some o → g.get? c = some o := hkp
    have hSg := hkp S _ (Ne.symm hS.2.2.2.2.2.1) (Ne.symm hS.2.2.2.2.2.2) (Ne.symm hS.2.1) (Ne.symm hS.2.2.1) hSo
    have up : ∀ b o, b ≠ S → g.get? b = some o → (g.update S (Obj.mapSeq (·.push (Value.ref h.objs.size)))).get? b = some o := fun b o hb e => (Heap.get?_update_other _ _ (Ne.symm hb)).trans e
    have hSn := Heap.get?_update_self (Obj.mapSeq (·.push (Value.ref h.objs.size))) hSg rfl
    show wpAny _ A.in1 (updateSeq S (·.push (Value.ref h.objs.size)) >>= _) _ _ _
    refine wpAny_bind ?_
    refine wpAny_updateSeq hSg rfl (wpAny_pure ⟨plainId_quiet PySem.F.plain_extend_loop _, ih (i + 1) _ _ (acc.push (Value.ref h.objs.size)) (as ++ [h.objs.size]) (by omega) hlt (hst'.off D hS (fun o _ => ⟨_, hSn⟩) up)
      (fun b o h1 h2 h3 h4 h5 e => up b o h1 (hkp b o h2 h3 h4 h5 (hkeep b o h1 h2 h3 h4 h5 e))) hSn (by rw [Array.toList_push, hacc, List.map_append]; rfl) (by rw [List.length_append, hal]; rfl) ⟨?_, ?_, ?_⟩⟩) (by rw [hsz]; omega) (by show (acc.push (Value.ref h.objs.size)).size ≤ sizeLine + 1; rw [Array.size_push, hsz]; omega)
    · refine List.pairwise_append.mpr ⟨hG.rise, List.pairwise_singleton _ _, fun a ha b hb => ?_⟩
      rw [List.mem_singleton.mp hb]
      exact hG.there ha
    · intro a ha
      rcases List.mem_append.mp ha with ha | ha
      · exact hG.above a ha
      · rw [List.mem_singleton.mp ha]
        exact hSl
    · intro j b hj
      rcases Nat.lt_trichotomy j as.length with q | q | q
      · rw [List.getElem?_append_left q] at hj
        obtain ⟨x', y', e1, e2, e3⟩ := hG.pairs j b hj
        have hb := hG.above b (List.mem_of_getElem? hj)
        exact ⟨x', y', e1, e2, up b _ (Nat.ne_of_gt hb) (hkp b _ (Nat.ne_of_gt (Nat.lt_trans z1 hb)) (Nat.ne_of_gt (Nat.lt_trans z2 hb)) (Nat.ne_of_gt (Nat.lt_trans z3 hb)) (Nat.ne_of_gt (Nat.lt_trans z4 hb)) e3)⟩
      · subst q
        have hb : h.objs.size = b := by simpa using hj
        subst hb
        exact ⟨x, y, by rw [hal]; exact hx, by rw [hal]; exact hy, up _ _ (Nat.ne_of_gt hSl) hp⟩
      · have hnone : (as ++ [h.objs.size])[j]? = none := List.getElem?_eq_none (by rw [List.length_append, List.length_singleton]; omega)
        rw [hnone] at hj
        cases hj
end
theorem zip_no_len : typeLookup (.type "zip") "__len__" = pure none := by
  rw [typeLookup_type, builtinLookup_eq_fast]
  kernel_rfl
theorem zip_no_hint : typeLookup (.type "zip") "__length_hint__" = pure none := by
  rw [typeLookup_type, builtinLookup_eq_fast]
  kernel_rfl
/-- what a new list of the pairs leaves -/
def ZR (xs ys : Array Value) (S : Addr) (h0 : Heap) (z TO i1 i2 : Addr) (K : Heap → List Addr → Prop) : Prop :=
  ∀ g acc c as, (∀ b o, b ≠ S → b ≠ z → b ≠ TO → b ≠ i1 → b ≠ i2 → h0.get? b = some o → g.get? b = some o) → g.get? S = some { cls := .type "list", dict := none, data := .seq acc c, slots := #[] } → as.length = min xs.size ys.size → ZG xs ys S g as →
      acc.toList = as.map Value.ref → K g as
section
variable {prog : Program} {w : World} {A : Around} {s : Shared} {R : Result → Shared → Prop} {z TI TO i1 i2 l1 l2 : Addr} {xs ys : Array Value}
theorem zl_extend {S : Addr} (hh : A.handled = none) (D : ZipApart z TI TO i1 i2 l1 l2) (hS : TI ≠ S ∧ i1 ≠ S ∧ i2 ≠ S ∧ l1 ≠ S ∧ l2 ≠ S ∧ z ≠ S ∧ TO ≠ S) (hzS : z < S ∧ TO < S ∧ i1 < S ∧ i2 < S) (hn : min xs.size ys.size ≤ sizeLine) (res : Value) (c0 : Nat)
    (hz : IsZip s.heap z TI TO .none) (st : ZS z TI TO i1 i2 l1 l2 xs ys s.heap 0) (hSo : s.heap.get? S = some { cls := .type "list", data := .seq #[] c0 })
    (hR : ZR xs ys S s.heap z TO i1 i2 fun g _ => R (.ok (.ret res)) { s with heap := g }) :
    wpAny (model prog w) A.in1 (Builtin.List.listExtendWith (.ref S) (.ref z) res)
      (fun fin t => match fin with | .done f => R (.ok f) t | .again c' => c'.quiet = true ∧ codeAny (model prog w) A c' R t) (fun e t => R (.error e) t) s := by
  have hT : ∀ h' : Heap, IsZip h' z TI TO .none → Shared.TypeIs { s with heap := h' } (.ref z) "zip" := fun h' q => ⟨_, q, rfl⟩
  unfold Builtin.List.listExtendWith
  refine wpAny_bind (wpAny_typeOf (hT _ hz) ?_)
  have f1 : Builtin.List.listSameRef (.ref S) (.ref z) = false := by simp [Builtin.List.listSameRef, Ne.symm hS.2.2.2.2.2.1]
  have f2 : (Value.type "zip" == Value.type "list") = false := by decide
  have f3 : (Value.type "zip" == Value.type "tuple") = false := by decide
  simp only [f1, f2, f3, Bool.or_false, Bool.false_eq_true, if_false]
  refine wpAny_bind (wpAny_pyIter_zip hz (wpAny_bind (wpAny_holding ?_)))
  unfold Builtin.List.listLengthHint
  refine wpAny_bind (wpAny_specialOf (hT _ hz) zip_no_len ?_)
  show wpAny _ A.in1 (specialOf (Value.ref z) (Str.ofString "__length_hint__") >>= _) _ _ _
  refine wpAny_bind (wpAny_specialOf (hT _ hz) zip_no_hint (wpAny_pure ?_))
  show wpAny _ A.in1 (rule "list.extend.makes-room" >>= fun _ => Builtin.List.listTouch (.ref S) >>= fun _ => again (.builtin "list.extend.loop" ⟨[.ref S, .ref z, res], []⟩)) _ _ _
  refine wpAny_bind (wpAny_rule (wpAny_bind ?_))
  show wpAny _ A.in1 (updateSeq S (·.push .none) >>= fun _ => updateSeq S (·.pop)) _ _ _
  refine wpAny_bind (wpAny_updateSeq hSo rfl ?_)
  have e2 := Heap.get?_update_self (Obj.mapSeq (·.push Value.none)) hSo rfl
  refine wpAny_updateSeq (hz := by seq_fits) e2 rfl ?_
  have e3 := Heap.get?_update_self (Obj.mapSeq (·.pop)) e2 rfl
  have oth : ∀ b o, b ≠ S → s.heap.get? b = some o → ((s.heap.update S (Obj.mapSeq (·.push Value.none))).update S (Obj.mapSeq (·.pop))).get? b = some o :=
    fun b o hb e => (Heap.get?_update_other _ _ (Ne.symm hb)).trans ((Heap.get?_update_other _ _ (Ne.symm hb)).trans e)
  refine wpAny_pure ⟨plainId_quiet PySem.F.plain_extend_loop _, zl_loop (h0 := s.heap) hh D hS hzS hn res (fun g acc c as a1 a2 a3 a4 a5 => hR g acc c as a1 a2 a3 a4 a5) _ 0 _ _ #[] [] rfl (Nat.zero_le _)
    (st.off D hS (fun o _ => ⟨_, e3⟩) oth) (fun b o hb _ _ _ _ e => oth b o hb e) e3 rfl rfl ⟨List.Pairwise.nil, by simp, by simp⟩⟩
theorem zl_init {S : Addr} (hh : A.handled = none) (D : ZipApart z TI TO i1 i2 l1 l2) (hS : TI ≠ S ∧ i1 ≠ S ∧ i2 ≠ S ∧ l1 ≠ S ∧ l2 ≠ S ∧ z ≠ S ∧ TO ≠ S) (hzS : z < S ∧ TO < S ∧ i1 < S ∧ i2 < S) (hn : min xs.size ys.size ≤ sizeLine)
    (hz : IsZip s.heap z TI TO .none) (st : ZS z TI TO i1 i2 l1 l2 xs ys s.heap 0) (hSo : s.heap.get? S = some { cls := .type "list", data := .seq #[] })
    (hR : ZR xs ys S s.heap z TO i1 i2 fun g _ => R (.ok (.ret .none)) { s with heap := g }) :
    wpAny (model prog w) A.in1 (Builtin.«list.__init__» ⟨[.ref S, .ref z], []⟩)
      (fun fin t => match fin with | .done f => R (.ok f) t | .again c' => c'.quiet = true ∧ codeAny (model prog w) A c' R t) (fun e t => R (.error e) t) s := by
  show wpAny _ A.in1 (do let old ← Builtin.List.listItems (.ref S); Builtin.List.listUpdate (.ref S) (fun _ => #[]); letGo old.toList.reverse; Builtin.List.listExtendWith (.ref S) (.ref z) .none) _ _ s
  refine wpAny_bind ?_
  unfold Builtin.List.listItems
  refine wpAny_bind (wpAny_seqItems hSo rfl (wpAny_pure ?_))
  show wpAny _ A.in1 (updateSeq S (fun _ => #[]) >>= fun _ => letGo (#[] : Array Value).toList.reverse >>= fun _ => Builtin.List.listExtendWith (.ref S) (.ref z) .none) _ _ s
  refine wpAny_bind (wpAny_updateSeq hSo rfl ?_)
  have e2 := Heap.get?_update_self (Obj.mapSeq (fun _ => (#[] : Array Value))) hSo rfl
  have oth : ∀ b o, b ≠ S → s.heap.get? b = some o → (s.heap.update S (Obj.mapSeq (fun _ => (#[] : Array Value)))).get? b = some o :=
    fun b o hb e => (Heap.get?_update_other _ _ (Ne.symm hb)).trans e
  refine wpAny_bind (wpAny_letGo ?_)
  exact zl_extend hh D hS hzS hn .none _ (oth _ _ hS.2.2.2.2.2.1 hz) (st.off D hS (fun o _ => ⟨_, e2⟩) oth) e2 fun g acc c as a1 a2 a3 a4 a5 => hR g acc c as (fun b o b1 b2 b3 b4 b5 e => a1 b o b1 b2 b3 b4 b5 (oth b o b1 e)) a2 a3 a4 a5
end
section
variable {prog : Program} {w : World} {A : Around} {E : Value → Shared → Prop} {s : Shared} {z TI TO i1 i2 l1 l2 : Addr} {xs ys : Array Value}
theorem zl_call {Q : Value → Shared → Prop} (hh : A.handled = none) (D : ZipApart z TI TO i1 i2 l1 l2) (hn : min xs.size ys.size ≤ sizeLine) (hTI : TI < s.heap.objs.size) (hTO : TO < s.heap.objs.size) (hl : l1 < s.heap.objs.size ∧ l2 < s.heap.objs.size)
    (hz : IsZip s.heap z TI TO .none) (st : ZS z TI TO i1 i2 l1 l2 xs ys s.heap 0)
    (hQ : ∀ g acc c as, (∀ b o, b ≠ z → b ≠ TO → b ≠ i1 → b ≠ i2 → s.heap.get? b = some o → g.get? b = some o) → g.get? s.heap.objs.size = some { cls := .type "list", dict := none, data := .seq acc c, slots := #[] } → as.length = min xs.size ys.size → ZG xs ys s.heap.objs.size g as →
      acc.toList = as.map Value.ref → Q (.ref s.heap.objs.size) { s with heap := g }) :
    wpAny (model prog w) A (call (.type "list") [.ref z]) Q E s := by
  obtain ⟨q1, q2, q3⟩ := st.lt
  refine callType_codes (Q₁ := fun obj t => obj = .ref s.heap.objs.size ∧ t = { s with heap := s.heap.push { cls := .type "list", data := .seq #[] } }) PySem.F.called_list (PySem.F.typeCall_list_1 _) PySem.F.entry_list_init
    (code_list_new _ ⟨rfl, rfl⟩) fun obj t ht => ?_
  obtain ⟨rfl, rfl⟩ := ht
  have hSo : (s.heap.push { cls := .type "list", data := .seq #[] }).get? s.heap.objs.size = some { cls := .type "list", data := .seq #[] } := Heap.get?_push_size _ rfl
  refine ⟨⟨_, hSo, rfl⟩, PySem.F.args_list_init_2 _ _, zl_init (A := A.in1) hh D ⟨Nat.ne_of_lt hTI, Nat.ne_of_lt q2, Nat.ne_of_lt q3, Nat.ne_of_lt hl.1, Nat.ne_of_lt hl.2, Nat.ne_of_lt q1, Nat.ne_of_lt hTO⟩ ⟨q1, hTO, q2, q3⟩ hn (Heap.get?_push_of_some _ hz)
    (st.move D fun b o e _ => Heap.get?_push_of_some _ e) hSo fun g acc c as a1 a2 a3 a4 a5 => ⟨rfl, hQ g acc c as (fun b o b2 b3 b4 b5 e => a1 b o (Nat.ne_of_lt (Heap.lt_size e)) b2 b3 b4 b5 (Heap.get?_push_of_some _ e)) a2 a3 a4 a5⟩⟩
end
end PI
/-! ## PiZ2 -/
set_option Elab.async false
set_option linter.all false
set_option maxRecDepth 100000
set_option maxHeartbeats 2000000
set_option autoImplicit false
/-! PI: list(zip(x, y)), the hand layer's rule and ours. -/
namespace PI
open PySem PySem.Spec PyProof.Rows L2
def putZ : Hp → List Addr → List (V × V) → Hp
  | H, a :: as, p :: r => putZ (upd H a (.tup [p.1, p.2])) as r
  | H, _, _ => H
theorem putZ_off {b : Addr} : ∀ (as : List Addr) (r : List (V × V)) (H : Hp), b ∉ as → putZ H as r b = H b
  | [], _, _, _ => rfl
  | _ :: _, [], _, _ => rfl
  | a :: as, p :: r, H, h => by
    rw [putZ, putZ_off as r _ fun z => h (List.mem_cons_of_mem _ z)]
    exact upd_ne fun z => h (by rw [z]; exact List.mem_cons_self)
theorem putZ_at : ∀ (as : List Addr) (r : List (V × V)) (H : Hp), as.length = r.length → as.Nodup → ∀ (j : Nat) (a : Addr), as[j]? = some a → ∃ q, r[j]? = some q ∧ putZ H as r a = some (.tup [q.1, q.2])
  | [], _, _, _, _, j, a, e => by simp at e
  | _ :: _, [], _, h, _, _, _, _ => by simp at h
  | b :: as, p :: r, H, h, hn, j, a, e => by
    have hn' := List.nodup_cons.mp hn
    cases j with
    | zero =>
      simp at e
      subst e
      refine ⟨p, rfl, ?_⟩
      rw [putZ, putZ_off as r _ hn'.1, upd_same]
    | succ j =>
      obtain ⟨q, h1, h2⟩ := putZ_at as r (upd H b (.tup [p.1, p.2])) (by simpa using h) hn'.2 j a (by simpa using e)
      exact ⟨q, by simpa using h1, h2⟩
/-- the pairs of two rows of values, as they are kept -/
def zipV (vx vy : List V) : List (V × V) := vx.zip vy
section
variable {X : Cx}
theorem zlaid {pins : List (Addr × Obj)} {σ : L2.St} {H : Hp} {s : Shared} {h' : Heap} {tk : Nat} {vx vy : List V} {xs ys acc : Array Value} {c : Nat} {as : List Addr} {p : Addr} (I : Inv X pins σ H s) (hp : s.heap.objs.size ≤ p) (rx : Vals vx xs.toList) (ry : Vals vy ys.toList)
    (hk : ∀ b o, s.heap.get? b = some o → h'.get? b = some o) (hS : h'.get? p = some { cls := .type "list", dict := none, data := .seq acc c, slots := #[] }) (hl : as.length = min xs.size ys.size) (hG : ZG xs ys p h' as) (hacc : acc.toList = as.map Value.ref) (hz : min xs.size ys.size ≤ sizeLine) :
    ∃ H' : Hp, (∀ b o, H b = some o → H' b = some o) ∧ H p = none ∧ (∀ t ∈ as, H t = none) ∧ p ∉ as ∧ as.Nodup ∧ H' p = some (.lst (as.map V.ref)) ∧ (∀ (j : Nat) (a : Addr), as[j]? = some a → ∃ q, (zipV vx vy)[j]? = some q ∧ H' a = some (.tup [q.1, q.2])) ∧ Inv X pins σ H' { s with heap := h', toks := tk } := by
  have lx := rx.length
  have ly := ry.length
  have lk : as.length = (zipV vx vy).length := by
    rw [hl, zipV, List.length_zip, lx, ly, Array.length_toList, Array.length_toList]
  have hSn : p ∉ as := fun z => Nat.lt_irrefl _ (hG.above _ z)
  have nd : as.Nodup := List.Pairwise.imp (fun {a b} (h : a < b) => Nat.ne_of_lt h) hG.rise
  have new : ∀ t ∈ as, H t = none := fun t ht => I.hok.fresh (Nat.le_trans hp (Nat.le_of_lt (hG.above t ht)))
  have newS : H p = none := I.hok.fresh hp
  have atP := putZ_at as (zipV vx vy) (upd H p (.lst (as.map V.ref))) lk nd
  have off : ∀ b, b ∉ as → b ≠ p → putZ (upd H p (.lst (as.map V.ref))) as (zipV vx vy) b = H b := fun b h1 h2 => by rw [putZ_off as _ _ h1, upd_ne h2]
  have low : ∀ b o, s.heap.get? b = some o → b ∉ as ∧ b ≠ p := fun b o e => by
    have q := Heap.lt_size e
    exact ⟨fun z => absurd (hG.above b z) (Nat.not_lt.mpr (Nat.le_trans (Nat.le_of_lt q) hp)), Nat.ne_of_lt (Nat.lt_of_lt_of_le q hp)⟩
  have kp : ∀ b u, H b = some u → (putZ (upd H p (.lst (as.map V.ref))) as (zipV vx vy)) b = some u := fun b u e => by
    rw [off b (fun z => by rw [new b z] at e; cases e) (fun z => by rw [z, newS] at e; cases e)]
    exact e
  have eS : putZ (upd H p (.lst (as.map V.ref))) as (zipV vx vy) p = some (.lst (as.map V.ref)) := by rw [putZ_off as _ _ hSn, upd_same]
  refine ⟨_, kp, newS, new, hSn, nd, eS, atP, ?_⟩
  refine I.call' (ch := []) rfl ⟨fun b o q _ _ _ => hk b o q, fun b o q _ _ _ => ⟨o.slots, hk b o q⟩, fun b o q n _ => ?_, fun b o q _ => ⟨o, hk b o q⟩, fun b xs q => kp b _ q, fun b o u q => kp b _ q, fun b ps q => ⟨#[], by rw [kp b _ q]; simp⟩⟩ (fun b u q => ?_) I.bare fun b z => by simp at z
  · obtain ⟨z1, z2⟩ := low b o q
    rw [off b z1 z2]
    exact n
  · by_cases hb : b ∈ as
    · obtain ⟨j, hj⟩ := List.mem_iff_getElem?.mp hb
      obtain ⟨pk, e2, e3⟩ := atP j b hj
      rw [e3] at q
      cases q
      obtain ⟨u, v, f1, f2, f3⟩ := hG.pairs j b hj
      unfold zipV at e2
      rw [List.getElem?_zip_eq_some] at e2
      obtain ⟨u', g1, g2⟩ := rx.get e2.1
      obtain ⟨v', g3, g4⟩ := ry.get e2.2
      have eu : u' = u := by
        have z : xs.toList[j]? = some u := by simpa using f1
        rw [g1] at z
        exact Option.some.inj z
      have ev : v' = v := by
        have z : ys.toList[j]? = some v := by simpa using f2
        rw [g3] at z
        exact Option.some.inj z
      subst eu ev
      exact ⟨by show 2 ≤ sizeLine; decide, [u', v'], .cons g2 (.cons g4 .nil), ⟨_, f3, rfl, _, rfl⟩⟩
    · by_cases hb2 : b = p
      · subst hb2
        rw [eS] at q
        cases q
        have vr : ∀ as : List Addr, Vals (as.map V.ref) (as.map Value.ref) := fun as => by
          induction as with
          | nil => exact .nil
          | cons a as ih => exact .cons rfl ih
        refine ⟨by rw [List.length_map]; omega, acc.toList, c, by rw [hacc]; exact vr as, ?_⟩
        rw [Array.toArray_toList]
        exact hS
      · rw [off b hb hb2] at q
        exact (I.hok b u q).stay (fun d v _ y => hk d v y) (fun d y => kp d _ y) fun d xs y => kp d _ y
def tListZip (K : PySem.W.Frag) (ta : TA) : TE := fun σ H Q => ta σ H fun vs H1 => ∃ a b vx vy, vs = [.ref a, .ref b] ∧ SqT K H1 a vx ∧ SqT K H1 b vy ∧ ∀ (H' : Hp) (p : Addr) (as : List Addr),
  (∀ b o, H1 b = some o → H' b = some o) → H1 p = none → (∀ t ∈ as, H1 t = none) → p ∉ as → as.Nodup → H' p = some (.lst (as.map V.ref)) → as.length = min vx.length vy.length → (∀ (j : Nat) (a : Addr), as[j]? = some a → ∃ q, (zipV vx vy)[j]? = some q ∧ H' a = some (.tup [q.1, q.2])) → Q (.ref p) H'
theorem pe_listZip {e e2 : Expr} {ta : TA} {p q pos pos2 : Pos} (hc : X.calm = true) (hg : Gl X "list") (hm : X.mg "list" = none) (hg2 : Gl X "zip") (hm2 : X.mg "zip" = none) (ha : PA X [e, e2] ta)
    (hv : bootBuiltins "list" = some (.type "list")) (hs : starEach [e, e2] X.env = (false, eval e X.env) :: starEach [e2] X.env := by rfl) (hpl : (backTo pos2 (starEach [e2] X.env)).any (·.1) = false := by rfl)
    (hst : starEach [.Call (.Name "zip" q) [e, e2] [] pos2] X.env = (false, eval (.Call (.Name "zip" q) [e, e2] [] pos2) X.env) :: starEach [] X.env := by rfl) :
    PE X (.Call (.Name "list" p) [.Call (.Name "zip" q) [e, e2] [] pos2] [] pos) (tListZip X.K ta) := by
  refine ⟨fun pins s σ H Q I h => ?_⟩
  refine Call_ (ld_blt I hg hm hv ?_)
  refine PyProof.Rows.callWith_type1 (PyProof.Rows.args_cons ?_ hst) hst rfl
  refine Call_ (ld_blt I hg2 hm2 PyProof.Rows.boot_zip (PyProof.Rows.callWith_type1 (thn (ha.run pos2 pins s σ H _ I h) fun us s1 ⟨vs, H1, I1, r1, q1⟩ => ?_) hs hpl))
  obtain ⟨a, b, vx, vy, ex, hqx, hqy, q1⟩ := q1
  subst ex
  cases r1 with
  | cons r rr =>
    cases rr with
    | cons r' rr =>
      cases rr
      cases r
      cases r'
      obtain ⟨its, rv, p1, hz1⟩ := I1.tuple hqx
      obtain ⟨its2, rv2, p2, hz2⟩ := I1.tuple hqy
      have t1 : s1.heap.IsTuple a its.toArray := p1
      have t2 : s1.heap.IsTuple b its2.toArray := p2
      obtain ⟨o1, ho1, _⟩ := id p1
      obtain ⟨o2, ho2, _⟩ := id p2
      refine RZ.call_zipT (show s1.heap.IsTuple a its.toArray from p1) (show s1.heap.IsTuple b its2.toArray from p2) fun h' hz hTI hTO h1 h2 hsz hk => ?_
      have I2 : Inv X pins σ H1 { s1 with heap := h' } := I1.kept (t' := s1.toks) hk
      have hlx : its.toArray.size = vx.length := by rw [List.size_toArray, ← rv.length]
      have hly : its2.toArray.size = vy.length := by rw [List.size_toArray, ← rv2.length]
      have hn : min its.toArray.size its2.toArray.size ≤ sizeLine := by
        have q : its.length ≤ sizeLine := by
          rw [← rv.length]
          exact hz1
        simp only [List.size_toArray]
        omega
      have la := Heap.lt_size ho1
      have lb := Heap.lt_size ho2
      refine PyProof.Rows.args_nil ?_
      have hsz : h'.objs.size = s1.heap.objs.size + 5 := hsz
      have L : ∀ n : Nat, n < 5 → s1.heap.objs.size + n < h'.objs.size := fun n hn => by
        rw [hsz]
        exact Nat.add_lt_add_left hn _
      have L0 : ∀ c : Nat, c < s1.heap.objs.size → c < h'.objs.size := fun c hc => Nat.lt_of_lt_of_le hc (Nat.le_of_lt (L 0 (by decide)))
      refine zl_call (s := { s1 with heap := h' }) (l1 := a) (l2 := b) (xs := its.toArray) (ys := its2.toArray) (I1.ok.hd hc) (PySem.W.ktu_apart s1.heap.objs.size a b la lb) hn (L 2 (by decide)) (L 3 (by decide)) ⟨L0 _ la, L0 _ lb⟩ hz
        ⟨hTI, h1, h2, t1.at fun o e => hk _ o e, t2.at fun o e => hk _ o e, .inl ⟨hz, _, _, hTO⟩⟩ fun g acc c as a1 a2 a3 a4 a5 => ?_
      have hkk : ∀ b o, s1.heap.get? b = some o → g.get? b = some o := fun b o e => by
        have q := Heap.lt_size e
        exact a1 b o (Nat.ne_of_lt (Nat.lt_of_lt_of_le q (Nat.le_add_right _ _))) (Nat.ne_of_lt (Nat.lt_of_lt_of_le q (Nat.le_add_right _ _))) (Nat.ne_of_lt q) (Nat.ne_of_lt (Nat.lt_of_lt_of_le q (Nat.le_add_right _ _))) (hk b o e)
      obtain ⟨H', k1, k2, k3, k4, k5, k6, k7, J⟩ := zlaid (tk := s1.toks) (p := h'.objs.size) (vx := vx) (vy := vy) (xs := its.toArray) (ys := its2.toArray) I1 (Nat.le_of_lt (L 0 (by decide))) (by simpa using rv) (by simpa using rv2) hkk a2 a3 a4 a5 hn
      exact ⟨.ref _, H', J, rfl, q1 H' _ as k1 k2 k3 k4 k5 k6 (by rw [a3, hlx, hly]) k7⟩
end
section
variable {G : Gx} {ρ : List Addr} {H H' : Hp} {h : Hh} {p : Addr}
theorem sqt_up {K : PySem.W.Frag} {a : Addr} {vs : List V} (k : ∀ b o, H b = some o → H' b = some o) (x : SqT K H a vs) : SqT K H' a vs := by
  rcases x with (x | ⟨u, x⟩) | x
  · exact .inl (.inl (k _ _ x))
  · exact .inl (.inr ⟨u, k _ _ x⟩)
  · exact .inr x
theorem sqr_up {K : PySem.W.Frag} {a : Addr} {vs : List V} (k : ∀ b o, H b = some o → H' b = some o) (x : SqR K H a vs) : SqR K H' a vs := by
  rcases x with ⟨u, x⟩ | x
  · exact .inl ⟨u, k _ _ x⟩
  · exact .inr x
theorem Le.up (k : ∀ b o, H b = some o → H' b = some o) : Le G ρ H ρ H' := ⟨⟨[], by simp⟩, fun _ _ x => sqt_up k x, fun _ _ x => sqr_up k x, fun b o e _ => k b o e, fun b o e => ⟨o, k b o e⟩⟩
theorem Le.up1 (k : ∀ b o, H b = some o → H' b = some o) (hp : H p = none) : Le G ρ H (ρ ++ [p]) H' := ⟨⟨[p], rfl, fun b hb => by rw [List.mem_singleton.mp hb]; exact hp⟩, fun _ _ x => sqt_up k x, fun _ _ x => sqr_up k x, fun b o e _ => k b o e, fun b o e => ⟨o, k b o e⟩⟩
theorem HR.up (x : HR G ρ h H) (k : ∀ b o, H b = some o → H' b = some o) : HR G ρ h H' := ⟨x.len, x.nd, fun i a o e1 e2 => (x.ok i a o e1 e2).keep (Le.up k) fun u e => k _ _ e⟩
theorem HR.up1 {o : Ob} (x : HR G ρ h H) (k : ∀ b o, H b = some o → H' b = some o) (hp : H p = none) (r : OR G (ρ ++ [p]) H' p o) : HR G (ρ ++ [p]) (h ++ [o]) H' := by
  refine ⟨by simp [x.len], ?_, fun i a u e1 e2 => ?_⟩
  · rw [List.nodup_append]
    refine ⟨x.nd, by simp, fun b hb c hc => ?_⟩
    rw [List.mem_singleton.mp hc]
    exact fun z => x.notin hp (z ▸ hb)
  · by_cases hi : i < h.length
    · rw [List.getElem?_append_left (by rw [x.len]; exact hi)] at e1
      rw [List.getElem?_append_left hi] at e2
      exact (x.ok i a u e1 e2).keep (Le.up1 k hp) fun z e => k _ _ e
    · rw [List.getElem?_append_right (by rw [x.len]; omega)] at e1
      rw [List.getElem?_append_right (by omega)] at e2
      have h0 : i - h.length = 0 := by
        have q := (List.getElem?_eq_some_iff.mp e2).1
        simp at q
        omega
      rw [x.len, h0] at e1
      rw [h0] at e2
      have ea : p = a := by simpa using e1
      have eo : o = u := by simpa using e2
      rw [← ea, ← eo]
      exact r
theorem RDs.of_at : ∀ {vs : List V} {ds : List D}, vs.length = ds.length → (∀ (j : Nat) (v : V) (d : D), vs[j]? = some v → ds[j]? = some d → RD G ρ H v d) → RDs G ρ H vs ds
  | [], [], _, _ => .nil
  | [], _ :: _, h, _ => by simp at h
  | _ :: _, [], h, _ => by simp at h
  | v :: vs, d :: ds, h, f => .cons (f 0 v d rfl rfl) (RDs.of_at (by simpa using h) fun j w e h1 h2 => f (j + 1) w e (by simpa using h1) (by simpa using h2))
end
section
variable {X : Cx} {G : Gx} {W : WX} {pos p q pos2 : Pos} {a b : Expr} {da db : Den}
theorem ie_zipL (hK : G.K = X.K) (hc : X.calm = true) (ha : PE X a (tI G W da)) (hb : PE X b (tI G W db)) (hm : X.mg "list" = none) (hm2 : X.mg "zip" = none) (hg : Gl X "list" := by rfl) (hg2 : Gl X "zip" := by rfl)
    (hs : starEach [a, b] X.env = (false, eval a X.env) :: starEach [b] X.env := by rfl) (hs2 : starEach [b] X.env = (false, eval b X.env) :: starEach [] X.env := by rfl) (hpl : (backTo pos2 (starEach [b] X.env)).any (·.1) = false := by rfl)
    (hst : starEach [.Call (.Name "zip" q) [a, b] [] pos2] X.env = (false, eval (.Call (.Name "zip" q) [a, b] [] pos2) X.env) :: starEach [] X.env := by rfl) :
    PE X (.Call (.Name "list" p) [.Call (.Name "zip" q) [a, b] [] pos2] [] pos) (tI G W (dZipL da db)) := by
  refine pe_imp (pe_listZip hc hg hm hg2 hm2 (pa_cons ha (pa_cons hb pa_nil hs2) hs) (by decide +kernel) hs hpl hst) fun σ H Q ⟨ρ, h, e, hr, er, p⟩ => ?_
  refine tI.intro hr er (Post.bind p) fun ρ1 h1 H1 x v l1 hr1 r1 p1 => ?_
  refine tI.intro hr1 (er.mono l1) (Post.bind p1) fun ρ2 h2 H2 y w l2 hr2 r2 p2 => ?_
  have r1' := r1.mono l2
  cases r1' <;> first
    | exact False.elim p2
    | skip
  cases r2 <;> first
    | exact False.elim p2
    | skip
  rename_i a1 vs ds s1 q1 a2 ws es s2 q2
  refine ⟨a1, a2, vs, ws, rfl, hK ▸ s1, hK ▸ s2, fun H' pl as k hp ht hpn nd eS hl hat => ?_⟩
  have le := Le.up1 (G := G) (ρ := ρ2) k hp
  have lz := zipD_len ds es
  have items : RDs G (ρ2 ++ [pl]) H' (as.map V.ref) (zipD ds es) := RDs.of_at (by rw [List.length_map, hl, lz, q1.length, q2.length]) fun j v d h1 h2 => by
    rw [List.getElem?_map, Option.map_eq_some_iff] at h1
    obtain ⟨t, ht, rfl⟩ := h1
    obtain ⟨pr, f1, f2⟩ := hat j t ht
    obtain ⟨x, y, ex, ey, rfl⟩ := zipD_at h2
    unfold zipV at f1
    rw [List.getElem?_zip_eq_some] at f1
    obtain ⟨v', g1, g2⟩ := q1.get ex
    obtain ⟨w', g3, g4⟩ := q2.get ey
    rw [f1.1] at g1
    rw [f1.2] at g3
    cases g1
    cases g3
    exact .tup (SqT.of f2) (.cons (g2.mono le) (.cons (g4.mono le) .nil))
  exact p2 _ _ _ le (hr2.up1 k hp ⟨_, eS, items⟩) (.ref (by rw [← hr2.len]; simp))
end
end PI
/-! ## PiN -/
set_option Elab.async false
set_option linter.all false
set_option maxRecDepth 100000
set_option maxHeartbeats 1000000
set_option autoImplicit false
/-! PI: enumerate of a tuple or a list; sep.join. -/
namespace PI
open PySem L2
/-! ### what the plain side has to show unreached -/
theorem ie_bad {X : Cx} {G : Gx} {W : WX} {e : Expr} : PE X e (tI G W dBad) := ⟨fun _ _ _ _ _ _ ⟨_, _, _, _, _, p⟩ => p.elim⟩
theorem is_bad {X : Cx} {G : Gx} {W : WX} {s : Stmt} : PS X s (tS G W sBad) := ⟨fun _ _ _ _ _ _ ⟨_, _, _, _, _, p⟩ => p.elim⟩
section
open PySem.Spec PyProof.Rows PySem.W
set_option maxHeartbeats 2000000 in
theorem meets_enumB {v : Value} {o : Obj} {H : Heap → Prop} (B : Begins v o H) :
    Meets (Builtin.«enumerate.__new__» ⟨[.type "enumerate", v], []⟩) (fun _ R s => H s.heap ∧
      R (.ok (.ret (.ref (s.heap.push o).objs.size))) { s with heap := (s.heap.push o).push { cls := .type "enumerate", data := .fields #[.none, .bool false, .ref s.heap.objs.size, rawInt 0, .none, .none] } }) :=
  .of_wp fun prog w A R s h => by
    obtain ⟨hp, g, d, tk, os⟩ := s; obtain ⟨h1, h⟩ := h
    have hsub := sub_enumerate
    have q1 : ∀ {A' : Around} {E : Value → Shared → Prop} {Q : Value → Shared → Prop}, Q (.ref hp.objs.size) ⟨hp.push o, g, d, tk, os⟩ → wpAny (model prog w) A' (pyIter v) Q E ⟨hp, g, d, tk, os⟩ :=
      fun q => B.iter prog w _ _ ⟨hp, g, d, tk, os⟩ _ h1 q
    wp_walk using q1
    refine wpAny_stack_any fun st => wpAny_pure ?_
    split
    · rename_i c _ _ _ _ _
      cases (c == Value.type "enumerate")
      · wp_walk using q1
        exact ⟨_, rfl, h⟩
      · wp_walk using q1
        exact ⟨_, rfl, h⟩
    · wp_walk using q1
      exact ⟨_, rfl, h⟩
section
variable {prog : Program} {w : World} {A : Around} {E : Value → Shared → Prop} {s : Shared}
theorem enum_begins1 {v : Value} {o : Obj} {H : Heap → Prop} {Q : Value → Shared → Prop} (B : Begins v o H) (h1 : H s.heap)
    (h : ∀ h', IsEnum h' (s.heap.objs.size + 1) s.heap.objs.size 0 .none → h'.get? s.heap.objs.size = some o → h'.objs.size = s.heap.objs.size + 2 →
      (∀ b o, s.heap.get? b = some o → h'.get? b = some o) → Q (.ref (s.heap.objs.size + 1)) { s with heap := h' }) :
    wpAny (model prog w) A (call (.type "enumerate") [v]) Q E s := by
  refine callType_new F.called_enumerate (by decide) (F.typeCall_enumerate_1 _) (F.newCall_enumerate_1 _) (fun obj => F.args_object_init_2 obj _) F.entry_enumerate_new
    (meets_enumB B) ⟨h1, ?_⟩
  have hz : (s.heap.push o).objs.size = s.heap.objs.size + 1 := Heap.size_push ..
  show _ ∧ _
  rw [hz]
  have he : IsEnum ((s.heap.push o).push { cls := .type "enumerate", data := .fields #[.none, .bool false, .ref s.heap.objs.size, rawInt 0, .none, .none] }) (s.heap.objs.size + 1) s.heap.objs.size 0 .none := by
    have := Heap.get?_push_size (s.heap.push o) (o := { cls := .type "enumerate", data := .fields #[.none, .bool false, .ref s.heap.objs.size, rawInt 0, .none, .none] }) rfl
    rw [hz] at this; exact this
  refine ⟨⟨_, he, rfl⟩, h _ he (Heap.get?_push_of_some _ (Heap.get?_push_size _ B.free)) (by rw [Heap.size_push, hz]) fun b o x => Heap.get?_push_of_some _ (Heap.get?_push_of_some _ x)⟩
end
/-- the tuple at a as it stands at each turn, each item in a new pair -/
def IteT (K : PySem.W.Frag) (a : Addr) : It :=
  ⟨fun i H => ∃ (xs : List V) (x : V), SqT K H a xs ∧ xs[i]? = some x, fun i H v H' => ∃ T x, v = .ref T ∧ H T = none ∧ H' = upd H T (.tup [.int (i : Nat), x]) ∧ ∀ xs, SqT K H a xs → xs[i]? = some x, fun i H => ∃ xs : List V, SqT K H a xs ∧ xs.length ≤ i⟩
theorem turn_enumT {P : Program} {w : World} {K : PySem.W.Frag} {elts : List Expr} {kk : Nat} {tpos : Pos} (a e it : Addr) :
    Turn P w K (.Tuple elts kk tpos) (IteT K a) [e, it] e (fun i h => (∃ old, IsEnum h e it ((i : Nat) : Int) old) ∧ h.IsTupleIter it a i ∧ e ≠ it) where
  mem := by simp
  obj := fun i h st b hb => by
    obtain ⟨⟨old, he⟩, ⟨o, ho, hc, hd⟩, _⟩ := st
    have e' : b = e ∨ b = it := by simpa using hb
    rcases e' with z | z
    · rw [z]; exact ⟨_, he, fun v q => nomatch q⟩
    · rw [z]; exact ⟨o, ho, fun v q => by rw [hd] at q; cases q⟩
  keep := fun i h h' st k => let ⟨⟨old, he⟩, hi, hne⟩ := st; ⟨⟨old, k e (by simp) _ he⟩, hi.at fun o q => k it (by simp) o q, hne⟩
  item := by
    intro X hP hw hK hc i pins s σ H E I hf st hg
    subst hP hw hK
    obtain ⟨⟨old, he⟩, hit, hne⟩ := st
    obtain ⟨xs, x, hq, hx⟩ := hg
    obtain ⟨its, rv, p, hz⟩ := I.tuple hq
    obtain ⟨u, hu, ru⟩ := rv.get hx
    have hel : e < s.heap.objs.size := Heap.lt_size he
    have hil : it < s.heap.objs.size := by obtain ⟨_, q, _⟩ := hit; exact Heap.lt_size q
    have hai : a ≠ it := fun z => by
      subst z
      obtain ⟨o1, g1, c1, _⟩ := p
      obtain ⟨o2, g2, c2, _⟩ := hit
      rw [g1] at g2
      cases g2
      rw [c1] at c2
      exact absurd c2 (by decide)
    have hea : e ∉ [it, a] := fun z => by
      have z' : e = it ∨ e = a := by simpa using z
      rcases z' with z | z
      · exact hne z
      · subst z
        obtain ⟨o1, g1, c1, _⟩ := p
        have g2 : s.heap.get? e = _ := he
        rw [g1] at g2
        cases g2
        exact absurd (show Value.type "enumerate" = Value.type "tuple" from c1) (by decide)
    have hlt : i < its.toArray.size := by
      have := (List.getElem?_eq_some_iff.mp hu).1
      simpa using this
    refine wpAny_pyNext_enum_itemD (Draws.tuple (show X.A.in1.handled = none from I.ok.hd hc) it a hai its.toArray) he ⟨hit, p⟩ hlt hne hea fun y h' tk hy ho hst hT hsz hk => ?_
    have ey : y = u := by
      have q : its.toArray[i]? = some u := by simpa using hu
      rw [hy] at q
      exact Option.some.inj q
    subst ey
    refine ⟨_, rfl, wpAny_letOwnedTupleGo_enum (s := { s with heap := h', toks := tk + 1 }) ho fun h'' he' sb => ?_⟩
    have hT2 : h''.get? s.heap.objs.size = some { cls := .type "tuple", data := .seq #[.int i tk, y] } := (sb.2 _ (Nat.ne_of_gt hel)).trans hT
    have new : ObjOk X.prog X.w (upd H s.heap.objs.size (.tup [.int (i : Nat), x])) h'' s.heap.objs.size (.tup [.int (i : Nat), x]) :=
      ⟨by show 2 ≤ sizeLine; decide, [.int i tk, y], .cons ⟨_, rfl⟩ (.cons ru .nil), ⟨_, hT2, rfl, _, rfl⟩⟩
    have I1 : Inv X pins σ (upd H s.heap.objs.size (.tup [.int (i : Nat), x])) { s with heap := h'', toks := tk + 1 } :=
      I.turnedNew (ch := [e, it]) (fun b ob hb q => (sb.2 b (fun z => hb (by simp [z]))).trans (hk b ob (fun z => hb (by simp [z])) (fun z => hb (by simp [z])) q)) hf (Nat.le_refl _) new
    refine ⟨.ref s.heap.objs.size, _, I1, rfl, ⟨_, x, rfl, I.hok.fresh (Nat.le_refl _), rfl, fun ys hy => by rw [I.tuple_inj hy hq]; exact hx⟩, ⟨⟨y, ?_⟩, hst.1.at fun o q => (sb.2 it (Ne.symm hne)).trans q, hne⟩, fun b hb => ?_⟩
    · have e1 : ((i + 1 : Nat) : Int) = (i : Int) + 1 := by omega
      rw [e1]; exact he'
    · have hb' : b < s.heap.objs.size := by
        have e' : b = e ∨ b = it := by simpa using hb
        rcases e' with z | z
        · rw [z]; exact hel
        · rw [z]; exact hil
      rw [upd_ne (Nat.ne_of_lt hb')]
      exact (hf b hb).1
  done := by
    intro X hP hw hK hc i pins s σ H E I hf st hg
    subst hP hw hK
    obtain ⟨⟨old, he⟩, hit, hne⟩ := st
    obtain ⟨xs, hq, hx⟩ := hg
    obtain ⟨its, rv, p, hz⟩ := I.tuple hq
    obtain ⟨f0, f1, f2, f3, f4, f5⟩ := hf it (by simp)
    have hl := rv.length
    have hT : s.TypeIs (.ref e) "enumerate" := ⟨_, he, rfl⟩
    unfold pyNext
    refine wpAny_bind (wpAny_attempt (wpAny_callSpecial?_slot (name := Str.ofString "__next__") hT F.slot_enumerate_next
      (wpAny_call_entry F.slot_enumerate_next hT F.entry_enumerate_next ?_ (F.args_enumerate_next_1 _))))
    show wpAny _ _ (field (.ref e) 2 >>= _) _ _ _
    refine wpAny_bind (wpAny_field he rfl (x := .ref it) rfl ?_)
    refine wpAny_bind (wpAny_nextOf_tuple_end (show X.A.in1.handled = none from I.ok.hd hc) hit p (by simp; omega) fun h' x he' hx' => ?_)
    obtain ⟨o, ho, hc'⟩ := hx'
    refine wpAny_bind (wpAny_isInstance (T := "StopIteration") (b := true) ⟨o, ho, hc'⟩ isSubtype_stop ?_)
    exact wpAny_pure ⟨rfl, I.turned (t' := s.toks) (fun b o hb q => he' b o hb q) f0 f1 f3 f4 f5⟩
  self := fun A i s Q E st h => let ⟨⟨_, he⟩, _⟩ := st; wpAny_pyIter_enum he h
def iEnumA (K : PySem.W.Frag) (ta : TA) : TI := fun σ H R => ta σ H fun vs H1 => ∃ a xs, vs = [.ref a] ∧ ((SqL K H1 a xs ∧ R (Ite K a) H1) ∨ (SqT K H1 a xs ∧ R (IteT K a) H1))
theorem pi_enumA {X : Cx} {e : Expr} {ta : TA} {p pos tpos : Pos} {elts : List Expr} {kk : Nat} (hg : Gl X "enumerate") (hm : X.mg "enumerate" = none) (ha : PA X [e] ta) (hs : starEach [e] X.env = [(false, eval e X.env)] := by rfl) :
    L2.PI X (.Tuple elts kk tpos) (.Call (.Name "enumerate" p) [e] [] pos) (iEnumA X.K ta) := by
  refine ⟨fun pins s σ H R I h => ?_⟩
  refine Call_ (ld_blt I hg hm boot_enumerate (PyProof.Rows.callWith_type1 (thn (ha.run pos pins s σ H _ I h) fun us s1 ⟨vs, H1, I1, r1, q1⟩ => ?_) hs rfl))
  obtain ⟨a, xs, ex, q⟩ := q1
  subst ex
  cases r1 with
  | cons r rr =>
    cases rr
    cases r
    rcases q with ⟨hq, q⟩ | ⟨hq, q⟩
    · obtain ⟨its, rv, p', hz⟩ := I1.list hq
      refine call_enumerate_list p'.isList fun h' he hit hsz hk => wpAny_pyIter_enum he ?_
      have I2 : Inv X pins σ H1 { s1 with heap := h' } := I1.kept (t' := s1.toks) hk
      refine ⟨s1.heap.objs.size + 1, [s1.heap.objs.size + 1, s1.heap.objs.size], _, _, H1, rfl, I2, turn_enum a (s1.heap.objs.size + 1) s1.heap.objs.size, ⟨⟨.none, he⟩, hit, Nat.succ_ne_self _⟩, fun b hb => ?_, q⟩
      have e' : b = s1.heap.objs.size + 1 ∨ b = s1.heap.objs.size := by simpa using hb
      have hle : s1.heap.objs.size ≤ b := by
        rcases e' with z | z
        · rw [z]; exact Nat.le_add_right _ _
        · rw [z]; exact Nat.le_refl _
      exact I1.fpOk hle (I1.hok.fresh hle)
    · obtain ⟨its, rv, p', hz⟩ := I1.tuple hq
      refine enum_begins1 (begins_tuple a its.toArray) p' fun h' he hit hsz hk => wpAny_pyIter_enum he ?_
      have I2 : Inv X pins σ H1 { s1 with heap := h' } := I1.kept (t' := s1.toks) hk
      refine ⟨s1.heap.objs.size + 1, [s1.heap.objs.size + 1, s1.heap.objs.size], _, _, H1, rfl, I2, turn_enumT a (s1.heap.objs.size + 1) s1.heap.objs.size, ⟨⟨.none, he⟩, ⟨_, hit, rfl, rfl⟩, Nat.succ_ne_self _⟩, fun b hb => ?_, q⟩
      have e' : b = s1.heap.objs.size + 1 ∨ b = s1.heap.objs.size := by simpa using hb
      have hle : s1.heap.objs.size ≤ b := by
        rcases e' with z | z
        · rw [z]; exact Nat.le_add_right _ _
        · rw [z]; exact Nat.le_refl _
      exact I1.fpOk hle (I1.hok.fresh hle)
end
section
variable {X : Cx} {G : Gx} {W : WX} {pos p : Pos} {a b : Expr} {da db : Den}
theorem enum_tup {ρ0 : List Addr} {H0 : Hp} {p : Addr} {vs : List V} {ds : List D} (hs : SqT G.K H0 p vs) (r : RDs G ρ0 H0 vs ds) : ItOk G ρ0 H0 (.its (enumD 0 ds)) (IteT G.K p) := by
  intro ρ h H l hr _ i
  have a1 := l.tup _ _ hs
  have b1 := r.mono l
  refine ⟨fun d e => ?_, fun hi => ⟨vs, a1, ?_⟩⟩
  · obtain ⟨x, ex, rfl⟩ := enumD_at (show (enumD 0 ds)[i]? = some d from e)
    obtain ⟨v, g1, g2⟩ := b1.get ex
    refine ⟨⟨vs, v, a1, g1⟩, fun z H' hy => ?_⟩
    obtain ⟨T, v', rfl, hT, rfl, f1⟩ := hy
    have e1 := f1 vs a1
    rw [g1] at e1
    cases e1
    have lt := Le.new (G := G) (ρ := ρ) (ho := .tup [.int (i : Nat), v]) hT
    rw [show (0 + i : Nat) = i by omega]
    exact ⟨ρ, lt, hr.beside hT, .tup (SqT.of upd_same) ((RDs.cons (.int _) (.cons g2 .nil)).mono lt)⟩
  · have hi : (enumD 0 ds).length ≤ i := hi
    rw [enumD_len] at hi
    rw [b1.length]
    exact hi
theorem enum_rl {ρ0 : List Addr} {H0 : Hp} {p : Addr} {vs : List V} {ds : List D} (hs : SqR G.K H0 p vs) (r : RDs G ρ0 H0 vs ds) : ItOk G ρ0 H0 (.its (enumD 0 ds)) (Ite G.K p) := by
  intro ρ h H l hr _ i
  have a1 := (l.rol _ _ hs).sq
  have b1 := r.mono l
  refine ⟨fun d e => ?_, fun hi => ⟨vs, a1, ?_⟩⟩
  · obtain ⟨x, ex, rfl⟩ := enumD_at (show (enumD 0 ds)[i]? = some d from e)
    obtain ⟨v, g1, g2⟩ := b1.get ex
    refine ⟨⟨vs, v, a1, g1⟩, fun z H' hy => ?_⟩
    obtain ⟨T, v', rfl, hT, rfl, f1⟩ := hy
    have e1 := f1 vs a1
    rw [g1] at e1
    cases e1
    have lt := Le.new (G := G) (ρ := ρ) (ho := .tup [.int (i : Nat), v]) hT
    rw [show (0 + i : Nat) = i by omega]
    exact ⟨ρ, lt, hr.beside hT, .tup (SqT.of upd_same) ((RDs.cons (.int _) (.cons g2 .nil)).mono lt)⟩
  · have hi : (enumD 0 ds).length ≤ i := hi
    rw [enumD_len] at hi
    rw [b1.length]
    exact hi
theorem enum_lst {ρ0 : List Addr} {H0 : Hp} {n : Nat} {p : Addr} {ds : List D} (q : ρ0[n]? = some p) : ItOk G ρ0 H0 (.enl n ds) (Ite G.K p) := by
  intro ρ h H l hr st i
  have q' := l.at q
  have e : lstAt h n = some ds := by
    simp only [Wk.still] at st
    split at st
    · rename_i ys g
      rw [g, D.sameL_eq _ _ st]
    · cases st
  obtain ⟨vs, g1, b1⟩ := sql_of hr q' e
  have a1 : SqL G.K H p vs := SqL.of g1
  refine ⟨fun d e => ?_, fun hi => ⟨vs, a1, ?_⟩⟩
  · obtain ⟨x, ex, rfl⟩ := enumD_at (show (enumD 0 ds)[i]? = some d from e)
    obtain ⟨v, g1, g2⟩ := b1.get ex
    refine ⟨⟨vs, v, a1, g1⟩, fun z H' hy => ?_⟩
    obtain ⟨T, v', rfl, hT, rfl, f1⟩ := hy
    have e1 := f1 vs a1
    rw [g1] at e1
    cases e1
    have lt := Le.new (G := G) (ρ := ρ) (ho := .tup [.int (i : Nat), v]) hT
    rw [show (0 + i : Nat) = i by omega]
    exact ⟨ρ, lt, hr.beside hT, .tup (SqT.of upd_same) ((RDs.cons (.int _) (.cons g2 .nil)).mono lt)⟩
  · have hi : (enumD 0 ds).length ≤ i := hi
    rw [enumD_len] at hi
    rw [b1.length]
    exact hi
theorem iw_enum {elts : List Expr} {kk : Nat} {tpos : Pos} (hK : G.K = X.K) (ha : PE X a (tI G W da)) (hm : X.mg "enumerate" = none) (hg : Gl X "enumerate" := by rfl)
    (he : starEach [a] X.env = (false, eval a X.env) :: starEach [] X.env := by rfl) (hs : starEach [a] X.env = [(false, eval a X.env)] := by rfl) :
    L2.PI X (.Tuple elts kk tpos) (.Call (.Name "enumerate" p) [a] [] pos) (tW G W (wEnum da)) := by
  refine pi_imp (pi_enumA hg hm (pa_cons ha pa_nil he) hs) fun σ H R ⟨ρ, h, e, hr, er, p⟩ => ?_
  refine tI.intro hr er (PostW.bind p) fun ρ1 h1 H1 x v l1 hr1 r1 p1 => ?_
  cases r1 with
  | tup hs rs => exact ⟨_, _, rfl, .inr ⟨hK ▸ hs, p1 ρ1 H1 _ Le.refl hr1 (hK ▸ enum_tup hs rs)⟩⟩
  | rl hs rs => exact ⟨_, _, rfl, .inl ⟨hK ▸ hs.sq, p1 ρ1 H1 _ Le.refl hr1 (hK ▸ enum_rl hs rs)⟩⟩
  | ref q =>
    simp only at p1
    split at p1
    · rename_i xs g
      obtain ⟨vs, g1, g2⟩ := sql_of hr1 q g
      exact ⟨_, _, rfl, .inl ⟨SqL.of g1, p1 ρ1 H1 _ Le.refl hr1 (hK ▸ enum_lst q)⟩⟩
    · exact p1.elim
  | _ => exact False.elim p1
/-! ### sep.join -/
theorem strs_vals {ρ : List Addr} {H : Hp} : ∀ {vs : List V} {ds : List D} {ys : List (List Nat)}, RDs G ρ H vs ds → strsOf ds = some ys → ∃ zs : List Str, vs = zs.map V.str ∧ zs.map (fun z => z.cps.toList) = ys
  | _, _, _, .nil, e => by
    cases e
    exact ⟨[], rfl, rfl⟩
  | _, _, _, .cons r rs, e => by
    cases r with
    | str x =>
      simp only [strsOf, Option.map_eq_some_iff] at e
      obtain ⟨ys, e1, rfl⟩ := e
      obtain ⟨zs, h1, h2⟩ := strs_vals rs e1
      exact ⟨x :: zs, by rw [h1]; rfl, by rw [List.map_cons, h2]⟩
    | _ => cases e
theorem joinN_eq (s : List Nat) : ∀ ys : List (List Nat), joinN s ys = TL.joinL s ys
  | [] => rfl
  | [p] => rfl
  | p :: q :: r => by
    rw [joinN, TL.joinL, joinN_eq s (q :: r)]
theorem join_cps (a : Str) (zs : List Str) : (Txt.join a zs).cps.toList = joinN a.cps.toList (zs.map fun z => z.cps.toList) := by
  rw [joinN_eq]
  exact (congrArg TL.tl (TL.join_eq a zs)).trans (TL.tl_join a zs)
theorem ie_join {apos : Pos} (ha : PE X a (tI G W da)) (hb : PE X b (tI G W db)) (hK : G.K = X.K) (hs : starEach [b] X.env = [(false, eval b X.env)] := by rfl) (hbase : attributeBase a "join" X.env (eval a X.env) = eval a X.env := by rfl) (hline : (apos.endLine == pos.line) = true := by rfl) :
    PE X (.Call (.Attribute a "join" apos) [b] [] pos) (tI G W (dJoin da db)) := by
  refine pe_imp (pe_join ha hb hs hbase hline) fun σ H Q ⟨ρ, h, e, hr, er, p⟩ => ?_
  refine tI.intro hr er (Post.bind p) fun ρ1 h1 H1 x v l1 hr1 r1 p1 => ?_
  split at p1
  case isFalse => exact p1.elim
  rename_i c0
  have hs' : ∃ s : Str, v = V.str s := by
    cases r1 <;> first
      | exact ⟨_, rfl⟩
      | cases c0
  refine ⟨hs', ?_⟩
  refine tI.intro hr1 (er.mono l1) (Post.bind p1) fun ρ2 h2 H2 y w l2 hr2 r2 p2 => ?_
  have r1' := r1.mono l2
  cases r1' with
  | str s =>
    simp only [oJoin] at p2
    split at p2
    · rename_i ys g
      split at p2
      · rename_i c
        obtain ⟨ds, g1, g2⟩ := Option.bind_eq_some_iff.mp g
        have c' := of_decide_eq_true c
        have key : ∀ {vs : List V}, RDs G ρ2 H2 vs ds → ∃ zs : List Str, vs = zs.map V.str ∧ (zs.map (·.length)).sum + zs.length * s.length ≤ 16777216 ∧ Q (.str (Txt.join s zs)) H2 := fun {vs} r => by
          obtain ⟨zs, h1, h2⟩ := strs_vals r g2
          refine ⟨zs, h1, ?_, post_here p2 hr2 (rd_str ?_)⟩
          · have e1 : zs.map (·.length) = ys.map List.length := by
              rw [← h2, List.map_map]
              refine List.map_congr_left fun z _ => ?_
              exact len_str z
            have e2 : zs.length = ys.length := by rw [← h2, List.length_map]
            rw [e1, e2, len_str]
            unfold SL at c'
            exact c'
          · rw [join_cps, h2]
        cases r2 with
        | tup hs rs =>
          cases g1
          obtain ⟨zs, rfl, h2, h3⟩ := key rs
          exact ⟨s, _, zs, rfl, rfl, .inr (hK ▸ hs), h2, h3⟩
        | rl hs rs =>
          cases g1
          obtain ⟨zs, rfl, h2, h3⟩ := key rs
          exact ⟨s, _, zs, rfl, rfl, .inl (hK ▸ hs.sq), h2, h3⟩
        | ref q =>
          obtain ⟨vs, g3, g4⟩ := sql_of hr2 q g1
          obtain ⟨zs, rfl, h2, h3⟩ := key g4
          exact ⟨s, _, zs, rfl, rfl, .inl (SqL.of g3), h2, h3⟩
        | _ => cases g1
      · exact p2.elim
    · exact p2.elim
  | _ => exact p2.elim
end
end PI
/-! ## Pi9 -/
set_option Elab.async false
set_option linter.all false
set_option maxRecDepth 100000
set_option maxHeartbeats 1000000
set_option autoImplicit false
/-! PI, part 9: the end of a row. -/
namespace PI
open PySem L2
def mkD (x : Str) (st : Stmt) : He.DefD := ⟨(x, none), x, x, defArgs st, defBody st, defScope st, [], []⟩
def FunOk (K : PySem.W.Frag) (mg : Str → Option Value) (x : Str) (st : Stmt) (ps : List Str) : Prop := ∃ f fd, Fun K x x st f fd ∧ mg x = some (.ref f) ∧ Binds K fd ps []
/-- its arguments' number and names alone decide how they bind -/
abbrev BindW (x : Str) (st : Stmt) (ps : List Str) : Prop := ∀ (kV doc pm : Value) (an : Option Addr) (cdv ct : Value) (us : List Value), us.length = ps.length → bindArgs (PySem.W.fnOf x x (defArgs st) (defBody st) (defScope st) .none kV doc pm an cdv ct) ⟨us, []⟩ = pure (ps.zip us)
section
variable {K : PySem.W.Frag} {mg : Str → Option Value} {h : Heap} {x : Str} {st : Stmt} {ps : List Str} {fa : List He.Fa} {fn : List He.DefD}
theorem fun_of (c : He.SaysD fa fn K) (i : Nat) (hd : fn[i]? = some (mkD x st) := by rfl) : ∃ fd, Fun K x x st (He.ga K x) fd := by
  obtain ⟨fd, F⟩ := c.def_ i hd
  refine ⟨fd, ?_, F.kp⟩
  obtain ⟨oc, od, dV, kV, doc, pm, an, cdv, ct, osl, e, lk, hcd, hD, _⟩ := F.ex
  rcases hD with ⟨_, rfl⟩ | ⟨n, _⟩
  · exact ⟨oc, od, kV, doc, pm, an, cdv, ct, osl, e, lk, hcd⟩
  · exact absurd rfl n
theorem funOk_of (X : K.In h) (G : h.Ns mainGlobals mg) (c : He.SaysD fa fn K) (i j : Nat) (hb : BindW x st ps) (hd : fn[i]? = some (mkD x st) := by rfl) (hf : fa[j]? = some (.glo x) := by rfl) : FunOk K mg x st ps := by
  obtain ⟨fd, F⟩ := fun_of c i hd
  exact ⟨_, fd, F, He.glo_ok X G (c.fact j hf), F.binds hb⟩
variable {P : Program} {w : World} {base : Heap} {G : Gx} {N : List Str} {n np : Nat} {g : List D → Hh → Res D} {b : SDen}
theorem cal_zero (F : FunOk K mg x st ps) (hg : ∀ ds h, g ds h = .bad) (hn : np = ps.length) : CalOk P w K mg base G 0 x np g := by
  obtain ⟨f, fd, F, hm, hb⟩ := F
  refine ⟨f, fd, ps, hm, F.kp, hb, fun vs H Q E ⟨ρ, h, ds, hr, r, hl, p⟩ => ?_, fun A outer s H args us vs Q E _ _ _ _ ⟨ρ, h, ds, hr, r, hl, p⟩ => ?_⟩
  · rw [r.length, hl, hn]
  · rw [hg] at p
    exact p.elim
theorem cal_succ (F : FunOk K mg x st ps) (S : FnScope N ps (defScope st))
    (hb : ∀ (f : Addr) (cdv : Value) (A : Around) (outer : List Env) (s : Shared) (H : Hp) (E : XK), Room n (A.deeper (PyProof.Rows.envOfC x (defScope st) s.heap.objs.size f cdv)) →
      PSs (cxOf (L2.CX P w) P w K mg base N x (defScope st) f cdv A outer s H E) (defBody st) (tS G (fun cls d _ H => E cls d H) b)) :
    CalOk P w K mg base G (n + 1) x ps.length (fun ds h => runBody N.length b ps.length ds h) := by
  obtain ⟨f, fd, F, hm, hb'⟩ := F
  exact ⟨f, fd, ps, hm, F.kp, hb', fn_I F S fun cdv A outer s H E hr => hb f cdv A outer s H E hr⟩
end
/-- a law: F gives the written part, the function object, the promise over every base; the script's bits are told -/
theorem walk_ofEB {l : PySem.W.OpenLaw} {n k : Nat} {q : Program} {loose : List Str} {XP : (Str → Option Value) → Heap → Prop} {YP : World → Heap → Prop} {d : DefRec} {CX : World → CXT} {x : Str}
    (hn : l.most = some n) (hn2 : n ≤ sizeLine) (hdf : d.params.defaults = []) (hr : Room k callerA)
    (F : ∀ (w : World) (mg : Str → Option Value) (fa : Addr) (h : Heap), YP w h → h.Ns mainGlobals mg → mg d.name = some (.ref fa) →
      ∃ (K : PySem.W.Frag) (fd : FuncData) (sp : Sp), K.In h ∧ (∀ (s : Shared) (u : Value), BindsTo s fd ⟨[u], []⟩ [(x, u)]) ∧
        (∀ (H : Hp) (a : Addr) (ns : List Int), ns.length ≤ n → (∀ z ∈ ns, Builtin.Int.intBits z ≤ 1048576) → Only H → SqL K H a (ns.map V.int) → sp [.ref a] H (fun v _ => v = .bl true) fun _ _ _ => False) ∧
        ∀ base : Heap, K.In base → base.Ns mainGlobals mg → FnOk l.prog w K mg base (CX w) k fa fd [x] sp)
    (hCX : ∀ (w : World) (H : Hp) (s : Shared) (e : Value) (s' : Shared), CX w [] H s (fun _ _ _ => False) e s' → False) :
    PySem.W.WalkO q loose XP YP l.row.toRowW d [] (fun f vs => PySem.call f vs) := by
  refine Att.attach_callB hn hdf fun w s₀ s₁ mg mb fa o pm cd doc a vs ns G Y ho hd hcd hmg hobj hints hlen hbits hg => ?_
  obtain ⟨K, fd, sp, KX, hb, hsp, hF⟩ := F w mg fa _ Y G.T.g hmg
  exact law_call KX G.T.g G.T.b G.T.builtins G.T.nolimit hg hobj hints (Nat.le_trans hlen hn2) hr hF hb (fun H hO hS => hsp H a ns hlen hbits hO hS) fun H e s' => hCX w H s₁ e s'
theorem bits_log {z : Int} (h : Builtin.Int.intBits z ≤ 1048576) : z.natAbs.log2 < 1048576 := by
  unfold Builtin.Int.intBits at h
  split at h
  · rename_i e
    have e : z = 0 := eq_of_beq e
    rw [e]
    decide
  · omega
theorem rds_ints (G : Gx) (ρ : List Addr) (H : Hp) : ∀ ns : List Int, RDs G ρ H (ns.map V.int) (ns.map D.int)
  | [] => .nil
  | n :: ns => .cons (.int n) (rds_ints G ρ H ns)
/-- the law's promise out of its plain statement -/
theorem sp_law {K : PySem.W.Frag} {G : Gx} {n : Nat} {g : List D → Hh → Res D} (hK : G.K = K) (hp : ∀ ns : List Int, ns.length ≤ n → (∀ z ∈ ns, z.natAbs.log2 < 1048576) → ∃ h', g [.rl (ns.map D.int)] [] = .ok (.bl true) h')
    (H : Hp) (a : Addr) (ns : List Int) (hl : ns.length ≤ n) (hb : ∀ z ∈ ns, Builtin.Int.intBits z ≤ 1048576) (hO : Only H) (hS : SqL K H a (ns.map V.int)) : spI G 1 g [.ref a] H (fun v _ => v = .bl true) fun _ _ _ => False := by
  subst hK
  have hR : SqR G.K H a (ns.map V.int) := by
    rcases hS with (h | ⟨u, h⟩) | h
    · rcases hO a with q | ⟨o, xs, q⟩
      · rw [h] at q
        cases q
      · rw [h] at q
        cases q
    · exact .inl ⟨u, h⟩
    · exact .inr h
  obtain ⟨h', e⟩ := hp ns hl fun z hz => bits_log (hb z hz)
  refine ⟨[], [], [.rl (ns.map D.int)], ⟨rfl, List.nodup_nil, fun i a o e _ => by simp at e⟩, .one (.rl hR (rds_ints G [] H ns)), rfl, ?_⟩
  rw [e]
  intro ρ' v H' l hr r
  cases r
  rfl
end PI
namespace PI
open PySem L2
theorem law_fd {K : PySem.W.Frag} {x : Str} {st : Stmt} {ps : List Str} {fa : List He.Fa} {fn : List He.DefD} (c : He.SaysD fa fn K) (i : Nat) (hb : BindW x st ps) (hd : fn[i]? = some (mkD x st) := by rfl) :
    ∃ fd, Fun K x x st (He.ga K x) fd ∧ ∀ (s : Shared) (us : List Value), us.length = ps.length → BindsTo s fd ⟨us, []⟩ (ps.zip us) := by
  obtain ⟨fd, F⟩ := fun_of c i hd
  refine ⟨fd, F, fun s us hl => ?_⟩
  obtain ⟨oc, od, kV, doc, pm, an, cdv, ct, osl, e, lk, hcd⟩ := F.ex
  subst e
  exact .of_eq (hb kV doc pm an cdv ct us hl)
theorem cx_none {P : Program} {w : World} {H : Hp} {s : Shared} {e : Value} {s' : Shared} (z : L2.CX P w [] H s (fun _ _ _ => False) e s') : False := by
  obtain ⟨_, _, _, _, _, _, _, _, _, _, _, _, z⟩ := z
  exact z.elim
end PI
/-! ## PiK -/
set_option Elab.async false
set_option linter.all false
set_option maxRecDepth 100000
set_option maxHeartbeats 1000000
set_option autoImplicit false
/-! PI: constants of the module that are tuples, lists. -/
namespace PI
open PySem L2
mutual
/-- the value u of the written part is the datum d -/
def konB (K : PySem.W.Frag) : D → Value → Bool
  | .non, .none => true
  | .bl a, .bool b => a == b
  | .int i, .int j _ => decide (i = j)
  | .str s, .str x _ => decide (x.cps.toList = s)
  | .tup ds, .ref a => (match K.lookup a with
    | some ⟨.type c, _, .seq its _, _⟩ => decide (c = "tuple") && (decide (its.size ≤ sizeLine) && konL K ds its.toList)
    | _ => false)
  | .rl ds, .ref a => (match K.lookup a with
    | some ⟨.type c, none, .seq its _, _⟩ => decide (c = "list") && (decide (its.size ≤ sizeLine) && konL K ds its.toList)
    | _ => false)
  | _, _ => false
def konL (K : PySem.W.Frag) : List D → List Value → Bool
  | [], [] => true
  | d :: ds, u :: us => konB K d u && konL K ds us
  | _, _ => false
end
/-- the value that stands for u -/
def valOf : Value → V
  | .none => .non
  | .bool b => .bl b
  | .int i _ => .int i
  | .str x _ => .str x
  | .ref a => .ref a
  | _ => .non
mutual
theorem konB_ok {K : PySem.W.Frag} : ∀ {d : D} {u : Value}, konB K d u = true → RelV (valOf u) u ∧ ∀ (G : Gx) (ρ : List Addr) (H : Hp), G.K = K → RD G ρ H (valOf u) d
  | .non, u, h => by
    cases u <;> first
      | (cases h; done)
      | exact ⟨rfl, fun _ _ _ _ => .non⟩
  | .bl a, u, h => by
    cases u <;> first
      | (cases h; done)
      | skip
    rename_i b
    have e : a = b := eq_of_beq h
    subst e
    exact ⟨rfl, fun _ _ _ _ => .bl a⟩
  | .int i, u, h => by
    cases u <;> first
      | (cases h; done)
      | skip
    rename_i j t
    have e : i = j := of_decide_eq_true h
    subst e
    exact ⟨⟨t, rfl⟩, fun _ _ _ _ => .int i⟩
  | .str s, u, h => by
    cases u <;> first
      | (cases h; done)
      | skip
    rename_i x t
    have e : x.cps.toList = s := of_decide_eq_true h
    subst e
    exact ⟨⟨t, rfl⟩, fun _ _ _ _ => .str x⟩
  | .tup ds, u, h => by
    cases u <;> first
      | (simp [konB] at h; done)
      | skip
    rename_i a
    rw [konB] at h
    split at h
    · rename_i c od its n sl q
      rw [Bool.and_eq_true, Bool.and_eq_true] at h
      obtain ⟨h1, h2, h3⟩ := h
      obtain ⟨vr, rd⟩ := konL_ok h3
      refine ⟨rfl, fun G ρ H hK => .tup (.inr ⟨_, its, n, hK ▸ q, congrArg Value.type (of_decide_eq_true h1), rfl, of_decide_eq_true h2, vr⟩) (rd G ρ H hK)⟩
    · cases h
  | .rl ds, u, h => by
    cases u <;> first
      | (simp [konB] at h; done)
      | skip
    rename_i a
    rw [konB] at h
    split at h
    · rename_i c its n sl q
      rw [Bool.and_eq_true, Bool.and_eq_true] at h
      obtain ⟨h1, h2, h3⟩ := h
      obtain ⟨vr, rd⟩ := konL_ok h3
      refine ⟨rfl, fun G ρ H hK => .rl (.inr ⟨_, its, n, hK ▸ q, congrArg Value.type (of_decide_eq_true h1), rfl, rfl, of_decide_eq_true h2, vr⟩) (rd G ρ H hK)⟩
    · cases h
  | .ref _, u, h => by simp [konB] at h
  | .cv _, u, h => by simp [konB] at h
theorem konL_ok {K : PySem.W.Frag} : ∀ {ds : List D} {us : List Value}, konL K ds us = true → Vals (us.map valOf) us ∧ ∀ (G : Gx) (ρ : List Addr) (H : Hp), G.K = K → RDs G ρ H (us.map valOf) ds
  | [], us, h => by
    cases us with
    | nil => exact ⟨.nil, fun _ _ _ _ => .nil⟩
    | cons _ _ => simp [konL] at h
  | d :: ds, us, h => by
    cases us with
    | nil => simp [konL] at h
    | cons u us =>
      rw [konL, Bool.and_eq_true] at h
      obtain ⟨a1, a2⟩ := konB_ok h.1
      obtain ⟨b1, b2⟩ := konL_ok h.2
      exact ⟨.cons a1 b1, fun G ρ H hK => .cons (a2 G ρ H hK) (b2 G ρ H hK)⟩
end
/-- the module's name x stands for d -/
def konN (K : PySem.W.Frag) (x : Str) (d : D) : Bool := match PySem.W.nsIn K mainGlobals x with
  | some (some u) => konB K d u
  | _ => false
/-- what is told of a constant -/
def Kon (K : PySem.W.Frag) (mg : Str → Option Value) (x : Str) (d : D) : Prop := ∃ u, mg x = some u ∧ RelV (valOf u) u ∧ ∀ (G : Gx) (ρ : List Addr) (H : Hp), G.K = K → RD G ρ H (valOf u) d
theorem konN_ok {K : PySem.W.Frag} {h : Heap} {mg : Str → Option Value} {x : Str} {d : D} (X : K.In h) (N : h.Ns mainGlobals mg) (c : konN K x d = true) : Kon K mg x d := by
  unfold konN at c
  split at c
  · rename_i u q
    obtain ⟨a, b⟩ := konB_ok c
    exact ⟨u, PySem.W.mg_of X N q, a, b⟩
  · cases c
theorem ie_kon {X : Cx} {G : Gx} {W : WX} {p : Pos} {K : PySem.W.Frag} {x : Str} {d : D} (k : Kon K X.mg x d) (hK : G.K = K) (hg : Gl X x) (hd : (x == ("__debug__" : Str)) = false) : PE X (.Name x p) (tI G W (dC d)) := by
  obtain ⟨u, h1, h2, h3⟩ := k
  exact ie_glob h1 h2 (fun ρ H => h3 G ρ H hK) hg hd
/-! ### the Hook with more told of K -/
def obsE (n : Nat) (fa : List He.Fa) (fn : List He.DefD) (ex : PySem.W.Frag → Bool) (g : Addr → Option Obj) : He.AlD × Bool := (He.obsD fa fn (He.frG g (He.asD g n)), ex (He.frG g (He.asD g n)))
def hookE (n : Nat) (fa : List He.Fa) (fn : List He.DefD) (ex : PySem.W.Frag → Bool) : PySem.W.Hook where
  α := He.AlD × Bool
  obs := fun s => obsE n fa fn ex s.heap.get?
  val := fun _ => (He.valD fn, true)
  says := fun _ h => ∃ K : PySem.W.Frag, K.In h ∧ He.SaysD fa fn K ∧ ex K = true
  of := fun _ _ e => ⟨_, He.frG_in, congrArg (fun z : He.AlD × Bool => z.1) e, congrArg (fun z : He.AlD × Bool => z.2) e⟩
  keeps := fun _ _ _ ⟨K, hK, c⟩ k => ⟨K, PySem.W.Frag.In.keeps hK k, c⟩
theorem obsE_eq {n : Nat} {fa : List He.Fa} {fn : List He.DefD} {ex : PySem.W.Frag → Bool} {g : Addr → Option Obj} {s : Shared} (h : ∀ a, g a = s.heap.get? a) : obsE n fa fn ex g = (hookE n fa fn ex).obs s := by
  have e : g = s.heap.get? := funext h
  rw [e] <;> rfl
end PI
/-! ## PiL -/
set_option Elab.async false
set_option linter.all false
set_option maxRecDepth 100000
set_option maxHeartbeats 1000000
set_option autoImplicit false
/-! PI, the plain side: what a denotation gives, from the left. -/
namespace PI
variable {α β : Type}
/-- one step back: q is enough for p -/
class Red (p : Prop) (q : outParam Prop) : Prop where
  go : q → p
theorem red {p q : Prop} [i : Red p q] (h : q) : p := i.go h
/-- r gives an answer of which Q holds -/
def Sat (r : Res α) (Q : α → Hh → Prop) : Prop := ∃ a h, r = .ok a h ∧ Q a h
section
variable {r : Res α} {Q P : α → Hh → Prop} {a : α} {h : Hh}
theorem Sat.ok (q : Q a h) : Sat (.ok a h) Q := ⟨a, h, rfl, q⟩
theorem Sat.of (e : r = .ok a h) (q : Q a h) : Sat r Q := ⟨a, h, e, q⟩
theorem Sat.mono (s : Sat r P) (f : ∀ a h, P a h → Q a h) : Sat r Q := by
  obtain ⟨a, h, e, p⟩ := s
  exact ⟨a, h, e, f a h p⟩
theorem Sat.bind {k : α → Hh → Res β} {Q : β → Hh → Prop} (s : Sat r fun a h => Sat (k a h) Q) : Sat (r.bind k) Q := by
  obtain ⟨a, h, rfl, p⟩ := s
  exact p
theorem Sat.bn {k : α → Hh → Res β} {Q : β → Hh → Prop} (s : Sat r fun a h => Sat (k a h) Q) : Sat (r.bn k) Q := by
  obtain ⟨a, h, rfl, p⟩ := s
  exact p
theorem Sat.sb {e : En} {k : α → Hh → Res Fl} {Q : Fl → Hh → Prop} (s : Sat r fun a h => Sat (k a h) Q) : Sat (r.sb e k) Q := by
  obtain ⟨a, h, rfl, p⟩ := s
  exact p
theorem Sat.opt {γ : Type} {o : Option γ} {g : γ → Res α} {b : Res α} {z : γ} (e : o = some z) (s : Sat (g z) Q) : Sat (match o with | some z => g z | none => b) Q := by
  subst e
  exact s
end
/-- a choice by a bool -/
def ifK (x : Bool) (A B : Prop) : Prop := if x = true then A else B
theorem ifK.t {x : Bool} {A B : Prop} (e : x = true) (a : A) : ifK x A B := by
  unfold ifK
  rw [if_pos e]
  exact a
theorem ifK.f {x : Bool} {A B : Prop} (e : x = false) (b : B) : ifK x A B := by
  unfold ifK
  rw [e, if_neg Bool.false_ne_true]
  exact b
theorem ifK.both {x : Bool} {A B : Prop} (a : x = true → A) (b : x = false → B) : ifK x A B := by
  cases x
  · exact ifK.f rfl (b rfl)
  · exact ifK.t rfl (a rfl)
theorem ifK.d {p : Prop} [Decidable p] {A B : Prop} (a : p → A) (b : ¬ p → B) : ifK (decide p) A B := ifK.both (fun e => a (of_decide_eq_true e)) fun e => b (of_decide_eq_false e)
theorem ifK.n {x : Bool} {A B : Prop} (a : ifK x B A) : ifK (!x) A B := by
  cases x
  · exact a
  · exact a
instance {x : Bool} {A B : Prop} : Red (ifK (!x) A B) (ifK x B A) := ⟨ifK.n⟩
/-- x is a bool, an int, a tuple, a list that stands; its truth; a list of allowed length; the arguments' number -/
def blK (x : D) (k : Bool → Prop) : Prop := ∃ b, x = .bl b ∧ k b
def intK (x : D) (k : Int → Prop) : Prop := ∃ b, x = .int b ∧ k b
def tupK (x : D) (k : List D → Prop) : Prop := ∃ b, x = .tup b ∧ k b
def trK (h : Hh) (x : D) (k : Bool → Prop) : Prop := ∃ b, truth h x = some b ∧ k b
def szK (xs : List D) (A : Prop) : Prop := xs.length ≤ SL ∧ A
def npK (xs : List D) (n : Nat) (A : Prop) : Prop := xs.length = n ∧ A
def isaK (h : Hh) (ty : Ty) (x : D) (k : Bool → Prop) : Prop := ∃ b, isA h ty x = some b ∧ k b
def lsK (h : Hh) (x : D) (A : Prop) : Prop := isLst h x = true ∧ A
theorem blK.mk {b : Bool} {k : Bool → Prop} (q : k b) : blK (.bl b) k := ⟨b, rfl, q⟩
instance {b : Bool} {k : Bool → Prop} : Red (blK (.bl b) k) (k b) := ⟨blK.mk⟩
theorem intK.mk {b : Int} {k : Int → Prop} (q : k b) : intK (.int b) k := ⟨b, rfl, q⟩
instance {b : Int} {k : Int → Prop} : Red (intK (.int b) k) (k b) := ⟨intK.mk⟩
theorem tupK.mk {b : List D} {k : List D → Prop} (q : k b) : tupK (.tup b) k := ⟨b, rfl, q⟩
instance {b : List D} {k : List D → Prop} : Red (tupK (.tup b) k) (k b) := ⟨tupK.mk⟩
theorem trK.bl {h : Hh} {b : Bool} {k : Bool → Prop} (q : k b) : trK h (.bl b) k := ⟨b, rfl, q⟩
instance {h : Hh} {b : Bool} {k : Bool → Prop} : Red (trK h (.bl b) k) (k b) := ⟨trK.bl⟩
theorem trK.int {h : Hh} {i : Int} {k : Bool → Prop} (q : k (!decide (i = 0))) : trK h (.int i) k := ⟨i != 0, rfl, by
  have e : (i != 0) = !decide (i = 0) := by
    by_cases c : i = 0
    · subst c
      rfl
    · rw [decide_eq_false c]
      exact bne_iff_ne.mpr c
  rw [e]
  exact q⟩
instance {h : Hh} {i : Int} {k : Bool → Prop} : Red (trK h (.int i) k) (k (!decide (i = 0))) := ⟨trK.int⟩
theorem trK.tup {h : Hh} {xs : List D} {k : Bool → Prop} (q : k (!xs.isEmpty)) : trK h (.tup xs) k := ⟨_, rfl, q⟩
instance {h : Hh} {xs : List D} {k : Bool → Prop} : Red (trK h (.tup xs) k) (k (!xs.isEmpty)) := ⟨trK.tup⟩
theorem trK.non {h : Hh} {k : Bool → Prop} (q : k false) : trK h .non k := ⟨_, rfl, q⟩
instance {h : Hh} {k : Bool → Prop} : Red (trK h .non k) (k false) := ⟨trK.non⟩
theorem trK.lst {h : Hh} {n : Nat} {xs : List D} {k : Bool → Prop} (e : h[n]? = some (.lst xs)) (q : k (!xs.isEmpty)) : trK h (.ref n) k := ⟨_, by simp only [truth, e], q⟩
theorem szK.mk {xs : List D} {A : Prop} (c : xs.length ≤ SL) (q : A) : szK xs A := ⟨c, q⟩
theorem npK.mk {xs : List D} {n : Nat} {A : Prop} (c : xs.length = n) (q : A) : npK xs n A := ⟨c, q⟩
theorem isaK.mk {h : Hh} {ty : Ty} {x : D} {b : Bool} {k : Bool → Prop} (c : isA h ty x = some b) (q : k b) : isaK h ty x k := ⟨b, c, q⟩
theorem isaK.lst {h : Hh} {ty : Ty} {n : Nat} {xs : List D} {k : Bool → Prop} (e : h[n]? = some (.lst xs)) (q : k (decide (ty = .list))) : isaK h ty (.ref n) k := ⟨_, by simp only [isA, e], q⟩
theorem lsK.mk {h : Hh} {n : Nat} {xs : List D} {A : Prop} (e : h[n]? = some (.lst xs)) (q : A) : lsK h (.ref n) A := ⟨by
  simp only [isLst, listOf, lstAt, e]
  rfl, q⟩
section
variable {e : En} {h : Hh} {Q : D → Hh → Prop} {QB : Bool → Hh → Prop} {QA : List D → Hh → Prop} {QF : Fl → Hh → Prop} {QE : En → Hh → Prop} {QW : Wk → Hh → Prop} {d : D} {a b c : Den} {i : Nat} {f g : D → D → Hh → Res D} {t u : TDen} {r : ADen} {ds : List D}
/-! ### expressions -/
theorem Sat.var (q : e[i]? = some (some d)) (s : Q d h) : Sat (dVar i e h) Q := by
  unfold dVar
  rw [q]
  exact .ok s
theorem Sat.con (s : Q d h) : Sat (dC d e h) Q := .ok s
instance  : Red (Sat (dC d e h) Q) (Q d h) := ⟨Sat.con⟩
theorem Sat.bin (s : Sat (a e h) fun x h1 => Sat (b e h1) fun y h2 => Sat (f x y h2) Q) : Sat (dBin f a b e h) Q := .bind (s.mono fun _ _ s => .bind s)
instance  : Red (Sat (dBin f a b e h) Q) (Sat (a e h) fun x h1 => Sat (b e h1) fun y h2 => Sat (f x y h2) Q) := ⟨Sat.bin⟩
theorem Sat.un {f : D → Hh → Res D} (s : Sat (a e h) fun x h1 => Sat (f x h1) Q) : Sat (dUn f a e h) Q := .bind s
instance {f : D → Hh → Res D} : Red (Sat (dUn f a e h) Q) (Sat (a e h) fun x h1 => Sat (f x h1) Q) := ⟨Sat.un⟩
theorem Sat.anil (s : QA [] h) : Sat (aNil e h) QA := .ok s
instance  : Red (Sat (aNil e h) QA) (QA [] h) := ⟨Sat.anil⟩
theorem Sat.acons (s : Sat (a e h) fun x h1 => Sat (r e h1) fun xs h2 => QA (x :: xs) h2) : Sat (aCons a r e h) QA := .bind (s.mono fun _ _ s => .bind (s.mono fun _ _ q => .ok q))
instance  : Red (Sat (aCons a r e h) QA) (Sat (a e h) fun x h1 => Sat (r e h1) fun xs h2 => QA (x :: xs) h2) := ⟨Sat.acons⟩
theorem Sat.tup (s : Sat (r e h) fun xs h1 => szK xs (Q (.tup xs) h1)) : Sat (dTup r e h) Q := .bind (s.mono fun _ _ ⟨c, q⟩ => by
  rw [if_pos c]
  exact .ok q)
instance  : Red (Sat (dTup r e h) Q) (Sat (r e h) fun xs h1 => szK xs (Q (.tup xs) h1)) := ⟨Sat.tup⟩
theorem Sat.lst (s : Sat (r e h) fun xs h1 => szK xs (Q (.ref h1.length) (h1 ++ [.lst xs]))) : Sat (dLst r e h) Q := .bind (s.mono fun _ _ ⟨c, q⟩ => by
  rw [if_pos c]
  exact .ok q)
instance  : Red (Sat (dLst r e h) Q) (Sat (r e h) fun xs h1 => szK xs (Q (.ref h1.length) (h1 ++ [.lst xs]))) := ⟨Sat.lst⟩
theorem Sat.args {f : List D → Hh → Res D} (s : Sat (r e h) fun xs h1 => Sat (f xs h1) Q) : Sat (dArgs f r e h) Q := .bind s
instance {f : List D → Hh → Res D} : Red (Sat (dArgs f r e h) Q) (Sat (r e h) fun xs h1 => Sat (f xs h1) Q) := ⟨Sat.args⟩
theorem Sat.chain (s : Sat (a e h) fun x h1 => Sat (b e h1) fun y h2 => Sat (f x y h2) fun z h3 => blK z fun w => ifK w (Sat (c e h3) fun v h4 => Sat (g y v h4) Q) (Q (.bl false) h3)) : Sat (dChain f g a b c e h) Q := by
  refine .bind (s.mono fun x h1 s => .bind (s.mono fun y h2 s => .bind (s.mono fun z h3 ⟨w, ez, s⟩ => ?_)))
  subst ez
  cases w with
  | true => exact .bind s
  | false => exact .ok s
instance  : Red (Sat (dChain f g a b c e h) Q) (Sat (a e h) fun x h1 => Sat (b e h1) fun y h2 => Sat (f x y h2) fun z h3 => blK z fun w => ifK w (Sat (c e h3) fun v h4 => Sat (g y v h4) Q) (Q (.bl false) h3)) := ⟨Sat.chain⟩
theorem Sat.tV (s : Sat (a e h) fun x h1 => blK x fun b => QB b h1) : Sat (tV a e h) QB := .bind (s.mono fun x h1 ⟨b, ex, q⟩ => by
  subst ex
  exact .ok q)
instance  : Red (Sat (tV a e h) QB) (Sat (a e h) fun x h1 => blK x fun b => QB b h1) := ⟨Sat.tV⟩
theorem Sat.tT (s : Sat (a e h) fun x h1 => trK h1 x fun b => QB b h1) : Sat (tT a e h) QB := .bind (s.mono fun x h1 ⟨b, ex, q⟩ => by
  rw [ex]
  exact .ok q)
instance  : Red (Sat (tT a e h) QB) (Sat (a e h) fun x h1 => trK h1 x fun b => QB b h1) := ⟨Sat.tT⟩
theorem Sat.tAnd (s : Sat (t e h) fun x h1 => ifK x (Sat (u e h1) QB) (QB false h1)) : Sat (PI.tAnd t u e h) QB := .bind (s.mono fun x h1 q => by
  cases x with
  | true => exact q
  | false => exact .ok q)
instance  : Red (Sat (PI.tAnd t u e h) QB) (Sat (t e h) fun x h1 => ifK x (Sat (u e h1) QB) (QB false h1)) := ⟨Sat.tAnd⟩
theorem Sat.tOr (s : Sat (t e h) fun x h1 => ifK x (QB true h1) (Sat (u e h1) QB)) : Sat (PI.tOr t u e h) QB := .bind (s.mono fun x h1 q => by
  cases x with
  | true => exact .ok q
  | false => exact q)
instance  : Red (Sat (PI.tOr t u e h) QB) (Sat (t e h) fun x h1 => ifK x (QB true h1) (Sat (u e h1) QB)) := ⟨Sat.tOr⟩
theorem Sat.tNot (s : Sat (t e h) fun x h1 => QB (!x) h1) : Sat (PI.tNot t e h) QB := .bind (s.mono fun _ _ q => .ok q)
instance  : Red (Sat (PI.tNot t e h) QB) (Sat (t e h) fun x h1 => QB (!x) h1) := ⟨Sat.tNot⟩
theorem Sat.and (s : Sat (a e h) fun x h1 => trK h1 x fun w => ifK w (Sat (b e h1) Q) (Q x h1)) : Sat (dAnd a b e h) Q := .bind (s.mono fun x h1 ⟨w, ex, q⟩ => by
  rw [ex]
  cases w with
  | true => exact q
  | false => exact .ok q)
instance  : Red (Sat (dAnd a b e h) Q) (Sat (a e h) fun x h1 => trK h1 x fun w => ifK w (Sat (b e h1) Q) (Q x h1)) := ⟨Sat.and⟩
theorem Sat.or (s : Sat (a e h) fun x h1 => trK h1 x fun w => ifK w (Q x h1) (Sat (b e h1) Q)) : Sat (dOr a b e h) Q := .bind (s.mono fun x h1 ⟨w, ex, q⟩ => by
  rw [ex]
  cases w with
  | true => exact .ok q
  | false => exact q)
instance  : Red (Sat (dOr a b e h) Q) (Sat (a e h) fun x h1 => trK h1 x fun w => ifK w (Q x h1) (Sat (b e h1) Q)) := ⟨Sat.or⟩
theorem Sat.not (s : Sat (a e h) fun x h1 => trK h1 x fun w => Q (.bl (!w)) h1) : Sat (dNot a e h) Q := .bind (s.mono fun x h1 ⟨w, ex, q⟩ => by
  rw [ex]
  exact .ok q)
instance  : Red (Sat (dNot a e h) Q) (Sat (a e h) fun x h1 => trK h1 x fun w => Q (.bl (!w)) h1) := ⟨Sat.not⟩
theorem Sat.ife (s : Sat (t e h) fun x h1 => ifK x (Sat (a e h1) Q) (Sat (b e h1) Q)) : Sat (dIf t a b e h) Q := .bind (s.mono fun x h1 q => by
  cases x with
  | true => exact q
  | false => exact q)
instance  : Red (Sat (dIf t a b e h) Q) (Sat (t e h) fun x h1 => ifK x (Sat (a e h1) Q) (Sat (b e h1) Q)) := ⟨Sat.ife⟩
theorem Sat.sl {lo hi : ODen} (s : Sat (a e h) fun x h1 => Sat (lo e h1) fun l h2 => Sat (hi e h2) fun v h3 => Sat (oSl x l v h3) Q) : Sat (dSl a lo hi e h) Q := .bind (s.mono fun _ _ s => .bind (s.mono fun _ _ s => .bind s))
instance {lo hi : ODen} : Red (Sat (dSl a lo hi e h) Q) (Sat (a e h) fun x h1 => Sat (lo e h1) fun l h2 => Sat (hi e h2) fun v h3 => Sat (oSl x l v h3) Q) := ⟨Sat.sl⟩
theorem Sat.pnone {Q : Option Int → Hh → Prop} (s : Q none h) : Sat (pNone e h) Q := .ok s
instance {Q : Option Int → Hh → Prop} : Red (Sat (pNone e h) Q) (Q none h) := ⟨Sat.pnone⟩
theorem Sat.psome {Q : Option Int → Hh → Prop} (s : Sat (a e h) fun x h1 => intK x fun j => Q (some j) h1) : Sat (pSome a e h) Q := .bind (s.mono fun x h1 ⟨j, ex, q⟩ => by
  subst ex
  exact .ok q)
instance {Q : Option Int → Hh → Prop} : Red (Sat (pSome a e h) Q) (Sat (a e h) fun x h1 => intK x fun j => Q (some j) h1) := ⟨Sat.psome⟩
theorem Sat.isA {ty : Ty} (s : Sat (a e h) fun x h1 => isaK h1 ty x fun w => Q (.bl w) h1) : Sat (dIsA ty a e h) Q := .bind (s.mono fun x h1 ⟨w, ex, q⟩ => by
  rw [ex]
  exact .ok q)
instance {ty : Ty} : Red (Sat (dIsA ty a e h) Q) (Sat (a e h) fun x h1 => isaK h1 ty x fun w => Q (.bl w) h1) := ⟨Sat.isA⟩
theorem Sat.meth {f : D → List D → Hh → Res D} (s : Sat (a e h) fun x h1 => lsK h1 x (Sat (r e h1) fun xs h2 => Sat (f x xs h2) Q)) : Sat (dMeth f a r e h) Q := .bind (s.mono fun x h1 ⟨c, q⟩ => by
  rw [if_pos c]
  exact .bind q)
instance {f : D → List D → Hh → Res D} : Red (Sat (dMeth f a r e h) Q) (Sat (a e h) fun x h1 => lsK h1 x (Sat (r e h1) fun xs h2 => Sat (f x xs h2) Q)) := ⟨Sat.meth⟩
theorem Sat.callN {cl : Cal} {k np : Nat} (s : Sat (r e h) fun xs h1 => npK xs np (Sat (cl k xs h1) Q)) : Sat (dCallN cl k np r e h) Q := .bind (s.mono fun x h1 ⟨c, q⟩ => by
  rw [if_pos c]
  exact q)
instance {cl : Cal} {k np : Nat} : Red (Sat (dCallN cl k np r e h) Q) (Sat (r e h) fun xs h1 => npK xs np (Sat (cl k xs h1) Q)) := ⟨Sat.callN⟩
theorem Sat.call0 {cl : Cal} {k : Nat} (s : Sat (cl k [] h) Q) : Sat (dCall0 cl k e h) Q := by
  obtain ⟨d, h', q, p⟩ := s
  unfold dCall0
  rw [q]
  exact .ok p
instance {cl : Cal} {k : Nat} : Red (Sat (dCall0 cl k e h) Q) (Sat (cl k [] h) Q) := ⟨Sat.call0⟩
theorem Sat.lc (s : Sat (r e h) fun xs h1 => Q (.ref h1.length) (h1 ++ [.lst xs])) : Sat (dLc r e h) Q := .bind (s.mono fun _ _ q => .ok q)
instance  : Red (Sat (dLc r e h) Q) (Sat (r e h) fun xs h1 => Q (.ref h1.length) (h1 ++ [.lst xs])) := ⟨Sat.lc⟩
/-! ### operations -/
variable {x y : Int} {s1 s2 : List Nat} {xs ys : List D}
theorem Sat.addI (q : Q (.int (x + y)) h) : Sat (oAdd (.int x) (.int y) h) Q := .ok q
instance  : Red (Sat (oAdd (.int x) (.int y) h) Q) (Q (.int (x + y)) h) := ⟨Sat.addI⟩
theorem Sat.addS (c : s1.length + s2.length ≤ SL) (q : Q (.str (s1 ++ s2)) h) : Sat (oAdd (.str s1) (.str s2) h) Q := by
  simp only [oAdd, if_pos c]
  exact .ok q
theorem Sat.addT (c : xs.length + ys.length ≤ SL) (q : Q (.tup (xs ++ ys)) h) : Sat (oAdd (.tup xs) (.tup ys) h) Q := by
  simp only [oAdd, if_pos c]
  exact .ok q
theorem Sat.addL {m n : Nat} (e1 : h[m]? = some (.lst xs)) (e2 : h[n]? = some (.lst ys)) (c : xs.length + ys.length ≤ SL) (q : Q (.ref h.length) (h ++ [.lst (xs ++ ys)])) : Sat (oAdd (.ref m) (.ref n) h) Q := by
  simp only [oAdd, e1, e2, if_pos c]
  exact .ok q
theorem Sat.mulL {n : Nat} {k : Int} (e : h[n]? = some (.lst xs)) (c : -(2 ^ 63) ≤ k ∧ k < 2 ^ 63 ∧ xs.length * k.toNat ≤ SL) (q : Q (.ref h.length) (h ++ [.lst (List.replicate k.toNat xs).flatten])) : Sat (oMul (.ref n) (.int k) h) Q := by
  simp only [oMul, e, if_pos c]
  exact .ok q
theorem Sat.mulT {k : Int} (c : xs ≠ [] ∧ 2 ≤ k ∧ k ≤ 1000 ∧ xs.length ≤ 1000) (q : Q (.tup (List.replicate k.toNat xs).flatten) h) : Sat (oMul (.tup xs) (.int k) h) Q := by
  simp only [oMul, if_pos c]
  exact .ok q
theorem Sat.subI (q : Q (.int (x - y)) h) : Sat (oSub (.int x) (.int y) h) Q := .ok q
instance  : Red (Sat (oSub (.int x) (.int y) h) Q) (Q (.int (x - y)) h) := ⟨Sat.subI⟩
theorem Sat.mulI (c : mulOk x y) (q : Q (.int (x * y)) h) : Sat (oMul (.int x) (.int y) h) Q := by
  simp only [oMul, if_pos c]
  exact .ok q
theorem Sat.divI (c : divOk y) (q : Q (.int (x.fdiv y)) h) : Sat (oDiv (.int x) (.int y) h) Q := by
  simp only [oDiv, if_pos c]
  exact .ok q
theorem Sat.modI (c : y ≠ 0) (q : Q (.int (x.fmod y)) h) : Sat (oMod (.int x) (.int y) h) Q := by
  simp only [oMod, if_pos c]
  exact .ok q
theorem Sat.powI (c : 0 ≤ y ∧ y ≤ 1000000 ∧ x.natAbs < 2 ^ 64) (q : Q (.int (x ^ y.toNat)) h) : Sat (oPow (.int x) (.int y) h) Q := by
  simp only [oPow, if_pos c]
  exact .ok q
theorem Sat.neg (q : Q (.int (-x)) h) : Sat (oNeg (.int x) h) Q := .ok q
instance  : Red (Sat (oNeg (.int x) h) Q) (Q (.int (-x)) h) := ⟨Sat.neg⟩
theorem Sat.ltI (q : Q (.bl (decide (x < y))) h) : Sat (cLt (.int x) (.int y) h) Q := .ok q
instance  : Red (Sat (cLt (.int x) (.int y) h) Q) (Q (.bl (decide (x < y))) h) := ⟨Sat.ltI⟩
theorem Sat.leI (q : Q (.bl (decide (x ≤ y))) h) : Sat (cLe (.int x) (.int y) h) Q := .ok q
instance  : Red (Sat (cLe (.int x) (.int y) h) Q) (Q (.bl (decide (x ≤ y))) h) := ⟨Sat.leI⟩
theorem Sat.gtI (q : Q (.bl (decide (y < x))) h) : Sat (cGt (.int x) (.int y) h) Q := .ok q
instance  : Red (Sat (cGt (.int x) (.int y) h) Q) (Q (.bl (decide (y < x))) h) := ⟨Sat.gtI⟩
theorem Sat.geI (q : Q (.bl (decide (y ≤ x))) h) : Sat (cGe (.int x) (.int y) h) Q := .ok q
instance  : Red (Sat (cGe (.int x) (.int y) h) Q) (Q (.bl (decide (y ≤ x))) h) := ⟨Sat.geI⟩
theorem beq_dec {γ : Type} [BEq γ] [LawfulBEq γ] [DecidableEq γ] (a b : γ) : (a == b) = decide (a = b) := by
  by_cases e : a = b
  · rw [e, decide_eq_true rfl]
    exact beq_self_eq_true b
  · rw [decide_eq_false e]
    exact beq_eq_false_iff_ne.mpr e
theorem Sat.eqI (q : Q (.bl (decide (x = y))) h) : Sat (cEq (.int x) (.int y) h) Q := .of (a := .bl (x == y)) rfl (by rw [beq_dec]; exact q)
instance  : Red (Sat (cEq (.int x) (.int y) h) Q) (Q (.bl (decide (x = y))) h) := ⟨Sat.eqI⟩
theorem Sat.neI (q : Q (.bl (!decide (x = y))) h) : Sat (cNe (.int x) (.int y) h) Q := .of (a := .bl (!(x == y))) rfl (by rw [beq_dec]; exact q)
instance  : Red (Sat (cNe (.int x) (.int y) h) Q) (Q (.bl (!decide (x = y))) h) := ⟨Sat.neI⟩
theorem Sat.eqS (q : Q (.bl (decide (s1 = s2))) h) : Sat (cEq (.str s1) (.str s2) h) Q := .of (a := .bl (s1 == s2)) rfl (by rw [beq_dec]; exact q)
instance  : Red (Sat (cEq (.str s1) (.str s2) h) Q) (Q (.bl (decide (s1 = s2))) h) := ⟨Sat.eqS⟩
theorem Sat.neS (q : Q (.bl (!decide (s1 = s2))) h) : Sat (cNe (.str s1) (.str s2) h) Q := .of (a := .bl (!(s1 == s2))) rfl (by rw [beq_dec]; exact q)
instance  : Red (Sat (cNe (.str s1) (.str s2) h) Q) (Q (.bl (!decide (s1 = s2))) h) := ⟨Sat.neS⟩
theorem Sat.eqB {x y : Bool} (q : Q (.bl (decide (x = y))) h) : Sat (cEq (.bl x) (.bl y) h) Q := .of (a := .bl (x == y)) rfl (by rw [beq_dec]; exact q)
instance {x y : Bool} : Red (Sat (cEq (.bl x) (.bl y) h) Q) (Q (.bl (decide (x = y))) h) := ⟨Sat.eqB⟩
theorem Sat.neB {x y : Bool} (q : Q (.bl (!decide (x = y))) h) : Sat (cNe (.bl x) (.bl y) h) Q := .of (a := .bl (!(x == y))) rfl (by rw [beq_dec]; exact q)
instance {x y : Bool} : Red (Sat (cNe (.bl x) (.bl y) h) Q) (Q (.bl (!decide (x = y))) h) := ⟨Sat.neB⟩
theorem eqR_tup (cx : (D.tup xs).fit = true) (cy : (D.tup ys).fit = true) : eqR h (.tup xs) (.tup ys) = some (D.eqvL xs ys) := by
  have e1 : D.scal2 (.tup xs) (.tup ys) = false := rfl
  simp only [eqR, e1, listOf, cx, cy, D.eqv]
  rfl
theorem Sat.eqT (cx : (D.tup xs).fit = true) (cy : (D.tup ys).fit = true) (q : Q (.bl (D.eqvL xs ys)) h) : Sat (cEq (.tup xs) (.tup ys) h) Q := by
  simp only [cEq, eqR_tup cx cy]
  exact .ok q
theorem Sat.neT (cx : (D.tup xs).fit = true) (cy : (D.tup ys).fit = true) (q : Q (.bl (!D.eqvL xs ys)) h) : Sat (cNe (.tup xs) (.tup ys) h) Q := by
  simp only [cNe, eqR_tup cx cy]
  exact .ok q
theorem Sat.ixT {x : Int} {z : D} (c : atIx xs x = some z) (q : Q z h) : Sat (oIx (.tup xs) (.int x) h) Q := by
  simp only [oIx, c]
  exact .ok q
theorem Sat.ixL {x : Int} {z : D} {n : Nat} (e : h[n]? = some (.lst xs)) (c : atIx xs x = some z) (q : Q z h) : Sat (oIx (.ref n) (.int x) h) Q := by
  simp only [oIx, listOf, lstAt, e, c]
  exact .ok q
theorem Sat.lenT (q : Q (.int xs.length) h) : Sat (bLen [.tup xs] h) Q := .ok q
instance  : Red (Sat (bLen [.tup xs] h) Q) (Q (.int xs.length) h) := ⟨Sat.lenT⟩
theorem Sat.lenL {n : Nat} (e : h[n]? = some (.lst xs)) (q : Q (.int xs.length) h) : Sat (bLen [.ref n] h) Q := by
  simp only [bLen, e]
  exact .ok q
theorem Sat.lenS (c : s1.length ≤ SL) (q : Q (.int s1.length) h) : Sat (bLen [.str s1] h) Q := by
  simp only [bLen, if_pos c]
  exact .ok q
theorem Sat.intI (q : Q (.int x) h) : Sat (bInt [.int x] h) Q := .ok q
instance  : Red (Sat (bInt [.int x] h) Q) (Q (.int x) h) := ⟨Sat.intI⟩
theorem Sat.intB {b : Bool} (q : Q (.int (if b then 1 else 0)) h) : Sat (bInt [.bl b] h) Q := .ok q
instance {b : Bool} : Red (Sat (bInt [.bl b] h) Q) (Q (.int (if b then 1 else 0)) h) := ⟨Sat.intB⟩
theorem Sat.absI (q : Q (.int (if x < 0 then -x else x)) h) : Sat (bAbs [.int x] h) Q := .ok q
instance  : Red (Sat (bAbs [.int x] h) Q) (Q (.int (if x < 0 then -x else x)) h) := ⟨Sat.absI⟩
theorem Sat.isN {z : D} {w : Bool} (c : isN z = some w) (q : Q (.bl w) h) : Sat (cIsN z h) Q := by
  simp only [cIsN, c]
  exact .ok q
theorem Sat.notN {z : D} {w : Bool} (c : PI.isN z = some w) (q : Q (.bl (!w)) h) : Sat (cNotN z h) Q := by
  simp only [cNotN, c]
  exact .ok q
theorem Sat.append {n : Nat} {z : D} (e : h[n]? = some (.lst xs)) (c : xs.length < SL) (q : Q .non (h.set n (.lst (xs ++ [z])))) : Sat (mAppend (.ref n) [z] h) Q := by
  simp only [mAppend, e, if_pos c]
  exact .ok q
theorem Sat.extend {m n : Nat} (e : h[n]? = some (.lst xs)) (e2 : h[m]? = some (.lst ys)) (c : xs.length + ys.length ≤ SL) (q : Q .non (h.set n (.lst (xs ++ ys)))) : Sat (mExtend (.ref n) [.ref m] h) Q := by
  simp only [mExtend, e, e2, if_pos c]
  exact .ok q
theorem Sat.extL {n : Nat} (e : h[n]? = some (.lst xs)) (c : xs.length + ys.length ≤ SL) (q : Q .non (h.set n (.lst (xs ++ ys)))) : Sat (mExtL (.ref n) ys h) Q := by
  simp only [mExtL, e, if_pos c]
  exact .ok q
theorem Sat.pop {n : Nat} {z : D} (e : h[n]? = some (.lst (xs ++ [z]))) (q : Q z (h.set n (.lst xs))) : Sat (mPop (.ref n) [] h) Q := by
  simp only [mPop, e, List.getLast?_append, List.dropLast_concat]
  exact .ok q
theorem isLst_ref {n : Nat} (e : h[n]? = some (.lst xs)) : isLst h (.ref n) = true := by
  simp only [isLst, listOf, lstAt, e]
  rfl
theorem Sat.tupT (q : Q (.tup xs) h) : Sat (bTuple [.tup xs] h) Q := .ok q
instance  : Red (Sat (bTuple [.tup xs] h) Q) (Q (.tup xs) h) := ⟨Sat.tupT⟩
theorem Sat.tupL {n : Nat} (e : h[n]? = some (.lst xs)) (q : Q (.tup xs) h) : Sat (bTuple [.ref n] h) Q := by
  simp only [bTuple, listOf, lstAt, e]
  exact .ok q
theorem Sat.lstT (q : Q (.ref h.length) (h ++ [.lst xs])) : Sat (bList [.tup xs] h) Q := .ok q
instance  : Red (Sat (bList [.tup xs] h) Q) (Q (.ref h.length) (h ++ [.lst xs])) := ⟨Sat.lstT⟩
theorem Sat.lstR (q : Q (.ref h.length) (h ++ [.lst xs])) : Sat (bList [.rl xs] h) Q := .ok q
instance  : Red (Sat (bList [.rl xs] h) Q) (Q (.ref h.length) (h ++ [.lst xs])) := ⟨Sat.lstR⟩
theorem Sat.lstL {n : Nat} (e : h[n]? = some (.lst xs)) (q : Q (.ref h.length) (h ++ [.lst xs])) : Sat (bList [.ref n] h) Q := by
  simp only [bList, listOf, lstAt, e]
  exact .ok q
theorem Sat.fTup (q : Q (.tup xs) h) : Sat (PI.fTup xs h) Q := .ok q
instance  : Red (Sat (PI.fTup xs h) Q) (Q (.tup xs) h) := ⟨Sat.fTup⟩
theorem Sat.fAll {bs : List Bool} (e : blsOf xs = some bs) (q : Q (.bl (bs.all id)) h) : Sat (PI.fAll xs h) Q := by
  simp only [PI.fAll, e]
  exact .ok q
theorem Sat.fAny {bs : List Bool} (e : blsOf xs = some bs) (q : Q (.bl (bs.any id)) h) : Sat (PI.fAny xs h) Q := by
  simp only [PI.fAny, e]
  exact .ok q
theorem Sat.fSum {is : List Int} (e : intsOf xs = some is) (q : Q (.int is.sum) h) : Sat (PI.fSum xs h) Q := by
  simp only [PI.fSum, e]
  exact .ok q
theorem Sat.slT {lo hi : Option Int} (q : Q (.tup (cut xs lo hi)) h) : Sat (oSl (.tup xs) lo hi h) Q := .ok q
instance {lo hi : Option Int} : Red (Sat (oSl (.tup xs) lo hi h) Q) (Q (.tup (cut xs lo hi)) h) := ⟨Sat.slT⟩
theorem Sat.slL {lo hi : Option Int} {n : Nat} (e : h[n]? = some (.lst xs)) (q : Q (.ref h.length) (h ++ [.lst (cut xs lo hi)])) : Sat (oSl (.ref n) lo hi h) Q := by
  simp only [oSl, listOf, lstAt, e]
  exact .ok q
theorem Sat.slR {lo hi : Option Int} (q : Q (.ref h.length) (h ++ [.lst (cut xs lo hi)])) : Sat (oSl (.rl xs) lo hi h) Q := .ok q
instance {lo hi : Option Int} : Red (Sat (oSl (.rl xs) lo hi h) Q) (Q (.ref h.length) (h ++ [.lst (cut xs lo hi)])) := ⟨Sat.slR⟩
/-! ### walks -/
theorem Sat.wTup (s : Sat (a e h) fun x h1 => tupK x fun xs => QW (.its xs) h1) : Sat (wSeq a e h) QW := .bind (s.mono fun x h1 ⟨xs, ex, q⟩ => by
  subst ex
  exact .ok q)
theorem Sat.wLst (s : Sat (a e h) fun x h1 => ∃ n xs, x = .ref n ∧ h1[n]? = some (.lst xs) ∧ QW (.lst n xs) h1) : Sat (wSeq a e h) QW := .bind (s.mono fun x h1 ⟨n, xs, ex, c, q⟩ => by
  subst ex
  simp only [lstAt, c]
  exact .ok q)
theorem Sat.wRl (s : Sat (a e h) fun x h1 => ∃ xs, x = .rl xs ∧ QW (.its xs) h1) : Sat (wSeq a e h) QW := .bind (s.mono fun x h1 ⟨xs, ex, q⟩ => by
  subst ex
  exact .ok q)
theorem Sat.wRng1 (s : Sat (a e h) fun x h1 => intK x fun j => lineI j ∧ QW (.rng 0 j.toNat) h1) : Sat (PI.wRng1 a e h) QW := .bind (s.mono fun x h1 ⟨j, ex, c, q⟩ => by
  subst ex
  simp only [if_pos c]
  exact .ok q)
instance  : Red (Sat (PI.wRng1 a e h) QW) (Sat (a e h) fun x h1 => intK x fun j => lineI j ∧ QW (.rng 0 j.toNat) h1) := ⟨Sat.wRng1⟩
theorem Sat.wRng2 (s : Sat (a e h) fun x h1 => Sat (b e h1) fun y h2 => intK x fun i => intK y fun j => (lineI i ∧ lineI j) ∧ QW (.rng i (j - i).toNat) h2) : Sat (PI.wRng2 a b e h) QW := .bind (s.mono fun x h1 s => .bind (s.mono fun y h2 ⟨i, ex, j, ey, c, q⟩ => by
  subst ex ey
  simp only [if_pos c]
  exact .ok q))
instance  : Red (Sat (PI.wRng2 a b e h) QW) (Sat (a e h) fun x h1 => Sat (b e h1) fun y h2 => intK x fun i => intK y fun j => (lineI i ∧ lineI j) ∧ QW (.rng i (j - i).toNat) h2) := ⟨Sat.wRng2⟩
theorem Sat.wRevT (s : Sat (a e h) fun x h1 => tupK x fun xs => QW (.its xs.reverse) h1) : Sat (wRev a e h) QW := .bind (s.mono fun x h1 ⟨xs, ex, q⟩ => by
  subst ex
  exact .ok q)
/-! ### targets -/
theorem Sat.gNm (s : QE (e.set i (some d)) h) : Sat (PI.gNm i d e h) QE := .ok s
instance  : Red (Sat (PI.gNm i d e h) QE) (QE (e.set i (some d)) h) := ⟨Sat.gNm⟩
theorem Sat.gsNil (s : QE e h) : Sat (PI.gsNil [] e h) QE := .ok s
instance  : Red (Sat (PI.gsNil [] e h) QE) (QE e h) := ⟨Sat.gsNil⟩
theorem Sat.gsCons {g : GDen} {r : GsDen} (s : Sat (g d e h) fun e1 h1 => Sat (r ds e1 h1) QE) : Sat (PI.gsCons g r (d :: ds) e h) QE := .bind s
instance {g : GDen} {r : GsDen} : Red (Sat (PI.gsCons g r (d :: ds) e h) QE) (Sat (g d e h) fun e1 h1 => Sat (r ds e1 h1) QE) := ⟨Sat.gsCons⟩
theorem Sat.gTp {n : Nat} {g : GsDen} (c : ds.length = n) (s : Sat (g ds e h) QE) : Sat (PI.gTp n g (.tup ds) e h) QE := by
  simp only [PI.gTp, if_pos c]
  exact s
theorem Sat.gSb (s : Sat (a e h) fun x h1 => Sat (b e h1) fun y h2 => Sat (setAt x y d h2) fun _ h3 => QE e h3) : Sat (PI.gSb a b d e h) QE := .bind (s.mono fun _ _ s => .bind (s.mono fun _ _ s => .bind (s.mono fun _ _ q => .ok q)))
instance  : Red (Sat (PI.gSb a b d e h) QE) (Sat (a e h) fun x h1 => Sat (b e h1) fun y h2 => Sat (setAt x y d h2) fun _ h3 => QE e h3) := ⟨Sat.gSb⟩
theorem Sat.setL {n j : Nat} {k : Int} {z : D} (e1 : h[n]? = some (.lst xs)) (c : ixOf xs.length k = some j) (q : Q .non (h.set n (.lst (xs.set j z)))) : Sat (setAt (.ref n) (.int k) z h) Q := by
  simp only [setAt, e1, c]
  exact .ok q
/-! ### statements -/
def seqK (b : SDen) (Q : Fl → Hh → Prop) : Fl → Hh → Prop
  | .nx e, h => Sat (b e h) Q
  | f, h => Q f h
theorem Sat.seq {a b : SDen} (s : Sat (a e h) (seqK b QF)) : Sat (sSeq a b e h) QF := .bind (s.mono fun f h1 q => by
  cases f with
  | nx e1 => exact q
  | rt d => exact .ok q
  | bk e1 => exact .ok q
  | ct e1 => exact .ok q
  | xc c fs e1 => exact .ok q)
instance {a b : SDen} : Red (Sat (sSeq a b e h) QF) (Sat (a e h) (seqK b QF)) := ⟨Sat.seq⟩
theorem seqK.nx {b : SDen} (s : Sat (b e h) QF) : seqK b QF (.nx e) h := s
instance {b : SDen} : Red (seqK b QF (.nx e) h) (Sat (b e h) QF) := ⟨seqK.nx⟩
theorem seqK.rt {b : SDen} (s : QF (.rt d) h) : seqK b QF (.rt d) h := s
instance {b : SDen} : Red (seqK b QF (.rt d) h) (QF (.rt d) h) := ⟨seqK.rt⟩
theorem seqK.bk {b : SDen} (s : QF (.bk e) h) : seqK b QF (.bk e) h := s
instance {b : SDen} : Red (seqK b QF (.bk e) h) (QF (.bk e) h) := ⟨seqK.bk⟩
theorem seqK.ct {b : SDen} (s : QF (.ct e) h) : seqK b QF (.ct e) h := s
instance {b : SDen} : Red (seqK b QF (.ct e) h) (QF (.ct e) h) := ⟨seqK.ct⟩
theorem Sat.nil (s : QF (.nx e) h) : Sat (sNil e h) QF := .ok s
instance  : Red (Sat (sNil e h) QF) (QF (.nx e) h) := ⟨Sat.nil⟩
theorem Sat.expr (s : Sat (a e h) fun _ h1 => QF (.nx e) h1) : Sat (sExpr a e h) QF := .sb (s.mono fun _ _ q => .ok q)
instance  : Red (Sat (sExpr a e h) QF) (Sat (a e h) fun _ h1 => QF (.nx e) h1) := ⟨Sat.expr⟩
theorem Sat.ret (s : Sat (a e h) fun x h1 => QF (.rt x) h1) : Sat (sRet a e h) QF := .sb (s.mono fun _ _ q => .ok q)
instance  : Red (Sat (sRet a e h) QF) (Sat (a e h) fun x h1 => QF (.rt x) h1) := ⟨Sat.ret⟩
theorem Sat.retN (s : QF (.rt .non) h) : Sat (sRetN e h) QF := .ok s
instance  : Red (Sat (sRetN e h) QF) (QF (.rt .non) h) := ⟨Sat.retN⟩
theorem Sat.brk (s : QF (.bk e) h) : Sat (sBreak e h) QF := .ok s
instance  : Red (Sat (sBreak e h) QF) (QF (.bk e) h) := ⟨Sat.brk⟩
theorem Sat.cont (s : QF (.ct e) h) : Sat (sCont e h) QF := .ok s
instance  : Red (Sat (sCont e h) QF) (QF (.ct e) h) := ⟨Sat.cont⟩
theorem Sat.asg {g : GDen} (s : Sat (a e h) fun x h1 => Sat (g x e h1) fun e1 h2 => QF (.nx e1) h2) : Sat (sAsg a g e h) QF := .sb (s.mono fun _ _ s => .sb (s.mono fun _ _ q => .ok q))
instance {g : GDen} : Red (Sat (sAsg a g e h) QF) (Sat (a e h) fun x h1 => Sat (g x e h1) fun e1 h2 => QF (.nx e1) h2) := ⟨Sat.asg⟩
theorem Sat.par {j : Nat} (s : Sat (a e h) fun x h1 => Sat (b e h1) fun y h2 => QF (.nx ((e.set i (some x)).set j (some y))) h2) : Sat (sPar i j a b e h) QF := .sb (s.mono fun _ _ s => .sb (s.mono fun _ _ q => .ok q))
instance {j : Nat} : Red (Sat (sPar i j a b e h) QF) (Sat (a e h) fun x h1 => Sat (b e h1) fun y h2 => QF (.nx ((e.set i (some x)).set j (some y))) h2) := ⟨Sat.par⟩
theorem Sat.aug (q : e[i]? = some (some d)) (s : Sat (a e h) fun y h1 => Sat (f d y h1) fun z h2 => QF (.nx (e.set i (some z))) h2) : Sat (sAug i f a e h) QF := by
  unfold sAug
  rw [q]
  exact .sb (s.mono fun _ _ s => .sb (s.mono fun _ _ q => .ok q))
theorem Sat.sif {a b : SDen} (s : Sat (t e h) fun x h1 => ifK x (Sat (a e h1) QF) (Sat (b e h1) QF)) : Sat (sIf t a b e h) QF := .sb (s.mono fun x h1 q => by
  cases x with
  | true => exact q
  | false => exact q)
instance {a b : SDen} : Red (Sat (sIf t a b e h) QF) (Sat (t e h) fun x h1 => ifK x (Sat (a e h1) QF) (Sat (b e h1) QF)) := ⟨Sat.sif⟩
theorem Sat.sfor {w : WDen} {g : GDen} {b : SDen} (s : Sat (w e h) fun k h1 => Sat (forGo k g b k.items e h1) QF) : Sat (sFor w g b e h) QF := .sb s
instance {w : WDen} {g : GDen} {b : SDen} : Red (Sat (sFor w g b e h) QF) (Sat (w e h) fun k h1 => Sat (forGo k g b k.items e h1) QF) := ⟨Sat.sfor⟩
/-- a for by its state: P holds behind each number of turns -/
theorem Sat.forGo {k : Wk} {g : GDen} {b : SDen} {its : List D} (P : List D → En → Hh → Prop) (h0 : P its e h) (still : ∀ ds e h, P ds e h → k.still h = true)
    (step : ∀ d ds e h, P (d :: ds) e h → Sat (g d e h) fun e1 h1 => Sat (b e1 h1) fun f h2 => match f with
      | .nx e2 => P ds e2 h2
      | .ct e2 => P ds e2 h2
      | .bk e2 => QF (.nx e2) h2
      | f => QF f h2) (fin : ∀ e h, P [] e h → QF (.nx e) h) : Sat (PI.forGo k g b its e h) QF := by
  induction its generalizing e h with
  | nil =>
    simp only [PI.forGo, still _ _ _ h0, if_true]
    exact .ok (fin _ _ h0)
  | cons d ds ih =>
    simp only [PI.forGo, still _ _ _ h0, if_true]
    refine .sb ((step d ds e h h0).mono fun e1 h1 s => .bind (s.mono fun f h2 q => ?_))
    cases f with
    | nx e2 => exact ih q
    | ct e2 => exact ih q
    | bk e2 => exact .ok q
    | rt d => exact .ok q
    | xc c fs e2 => exact .ok q
theorem Sat.whl {b : SDen} (s : Sat (whGo t b WF e h) QF) : Sat (sWhile t b e h) QF := s
instance {b : SDen} : Red (Sat (sWhile t b e h) QF) (Sat (whGo t b WF e h) QF) := ⟨Sat.whl⟩
/-- a while by its state and a measure -/
theorem Sat.whGo {b : SDen} (P : Nat → En → Hh → Prop) (m : Nat) (h0 : P m e h) 
    (step : ∀ m e h, P m e h → Sat (t e h) fun x h1 => ifK x (Sat (b e h1) fun f h2 => match f with
      | .nx e2 => ∃ m', m' < m ∧ P m' e2 h2
      | .ct e2 => ∃ m', m' < m ∧ P m' e2 h2
      | .bk e2 => QF (.nx e2) h2
      | f => QF f h2) (QF (.nx e) h1)) {n : Nat} (hm : m < n) : Sat (PI.whGo t b n e h) QF := by
  induction n generalizing m e h with
  | zero => omega
  | succ n ih =>
    unfold PI.whGo
    refine .sb ((step m e h h0).mono fun x h1 s => ?_)
    cases x with
    | false => exact .ok s
    | true =>
      have s : Sat (b e h1) _ := s
      refine .bind (s.mono fun f h2 q => ?_)
      cases f with
      | nx e2 => obtain ⟨m', hl, p⟩ := q; exact ih m' p (by omega)
      | ct e2 => obtain ⟨m', hl, p⟩ := q; exact ih m' p (by omega)
      | bk e2 => exact .ok q
      | rt d => exact .ok q
      | xc c fs e2 => exact .ok q
/-! ### comprehensions -/
theorem Sat.comp {w : WDen} {vs : List Nat} {g : GDen} (s : Sat (w e h) fun k h1 => Sat (compGo k vs g t a e k.items [] h1) QA) : Sat (aComp w vs g t a e h) QA := .bind s
instance {w : WDen} {vs : List Nat} {g : GDen} : Red (Sat (aComp w vs g t a e h) QA) (Sat (w e h) fun k h1 => Sat (compGo k vs g t a e k.items [] h1) QA) := ⟨Sat.comp⟩
/-- P: what is left, what is made -/
theorem Sat.compGo {k : Wk} {vs : List Nat} {g : GDen} {its acc : List D} (P : List D → List D → Hh → Prop) (h0 : P its acc h) (still : ∀ ds acc h, P ds acc h → k.still h = true)
    (step : ∀ d ds acc h, P (d :: ds) acc h → Sat (g d (forget e vs) h) fun e1 h1 => Sat (t e1 h1) fun b h2 => ifK b (Sat (a e1 h2) fun x h3 => acc.length < SL ∧ P ds (acc ++ [x]) h3) (P ds acc h2))
    (fin : ∀ acc h, P [] acc h → QA acc h) : Sat (PI.compGo k vs g t a e its acc h) QA := by
  induction its generalizing acc h with
  | nil =>
    simp only [PI.compGo, still _ _ _ h0, if_true]
    exact .ok (fin _ _ h0)
  | cons d ds ih =>
    simp only [PI.compGo, still _ _ _ h0, if_true]
    refine .bn ((step d ds acc h h0).mono fun e1 h1 s => .bn (s.mono fun b h2 q => ?_))
    cases b with
    | true =>
      have q : Sat (a e1 h2) _ := q
      exact .bn (q.mono fun x h3 ⟨c, q⟩ => by rw [if_pos c]; exact ih q)
    | false => exact ih q
/-- the same, by the turn's number -/
theorem Sat.forIx {k : Wk} {g : GDen} {b : SDen} {its : List D} (P : Nat → En → Hh → Prop) (h0 : P 0 e h) (still : ∀ i e h, P i e h → k.still h = true)
    (step : ∀ i d e h, its[i]? = some d → P i e h → Sat (g d e h) fun e1 h1 => Sat (b e1 h1) fun f h2 => match f with
      | .nx e2 => P (i + 1) e2 h2
      | .ct e2 => P (i + 1) e2 h2
      | .bk e2 => QF (.nx e2) h2
      | f => QF f h2) (fin : ∀ e h, P its.length e h → QF (.nx e) h) : Sat (PI.forGo k g b its e h) QF := by
  refine Sat.forGo (fun ds e h => ∃ i, ds = its.drop i ∧ i ≤ its.length ∧ P i e h) ⟨0, by simp, by omega, h0⟩ (fun ds e h ⟨i, _, _, p⟩ => still i e h p) (fun d ds e h ⟨i, hd, hi, p⟩ => ?_) fun e h ⟨i, hd, hi, p⟩ => ?_
  · have hlt : i < its.length := by
      rcases Nat.lt_or_ge i its.length with c | c
      · exact c
      · rw [List.drop_eq_nil_of_le c] at hd
        cases hd
    rw [List.drop_eq_getElem_cons hlt] at hd
    obtain ⟨rfl, rfl⟩ := List.cons.inj hd
    refine (step i _ e h (List.getElem?_eq_getElem hlt) p).mono fun e1 h1 s => s.mono fun f h2 q => ?_
    cases f with
    | nx e2 => exact ⟨i + 1, rfl, hlt, q⟩
    | ct e2 => exact ⟨i + 1, rfl, hlt, q⟩
    | bk e2 => exact q
    | rt d => exact q
    | xc c fs e2 => exact q
  · have c : its.length ≤ i := by
      rcases Nat.lt_or_ge i its.length with c | c
      · rw [List.drop_eq_getElem_cons c] at hd
        cases hd
      · exact c
    have ei : i = its.length := by omega
    subst ei
    exact fin e h p
theorem Sat.compIx {k : Wk} {vs : List Nat} {g : GDen} {its : List D} (P : Nat → List D → Hh → Prop) (h0 : P 0 [] h) (still : ∀ i acc h, P i acc h → k.still h = true)
    (step : ∀ i d acc h, its[i]? = some d → P i acc h → Sat (g d (forget e vs) h) fun e1 h1 => Sat (t e1 h1) fun b h2 => ifK b (Sat (a e1 h2) fun x h3 => acc.length < SL ∧ P (i + 1) (acc ++ [x]) h3) (P (i + 1) acc h2))
    (fin : ∀ acc h, P its.length acc h → QA acc h) : Sat (PI.compGo k vs g t a e its [] h) QA := by
  refine Sat.compGo (fun ds acc h => ∃ i, ds = its.drop i ∧ i ≤ its.length ∧ P i acc h) ⟨0, by simp, by omega, h0⟩ (fun ds acc h ⟨i, _, _, p⟩ => still i acc h p) (fun d ds acc h ⟨i, hd, hi, p⟩ => ?_) fun acc h ⟨i, hd, hi, p⟩ => ?_
  · have hlt : i < its.length := by
      rcases Nat.lt_or_ge i its.length with c | c
      · exact c
      · rw [List.drop_eq_nil_of_le c] at hd
        cases hd
    rw [List.drop_eq_getElem_cons hlt] at hd
    obtain ⟨rfl, rfl⟩ := List.cons.inj hd
    refine (step i _ acc h (List.getElem?_eq_getElem hlt) p).mono fun e1 h1 s => s.mono fun b h2 q => ?_
    cases b with
    | true => exact ifK.t rfl (Sat.mono (show Sat (a e1 h2) _ from q) fun x h3 ⟨c, q⟩ => ⟨c, i + 1, rfl, hlt, q⟩)
    | false => exact ifK.f rfl ⟨i + 1, rfl, hlt, q⟩
  · have c : its.length ≤ i := by
      rcases Nat.lt_or_ge i its.length with c | c
      · rw [List.drop_eq_getElem_cons c] at hd
        cases hd
      · exact c
    have ei : i = its.length := by omega
    subst ei
    exact fin acc h p
theorem rng_len {lo : Int} {n : Nat} : (Wk.items (.rng lo n)).length = n := by simp [Wk.items]
theorem rng_at {lo : Int} {n i : Nat} {d : D} (e : (Wk.items (.rng lo n))[i]? = some d) : i < n ∧ d = .int (lo + i) := by
  have hi := (List.getElem?_eq_some_iff.mp e).1
  rw [rng_len] at hi
  simp only [Wk.items] at e
  rw [List.getElem?_map, List.getElem?_range hi] at e
  exact ⟨hi, (Option.some.inj e).symm⟩
theorem Sat.tYes (s : QB true h) : Sat (PI.tYes e h) QB := .ok s
instance  : Red (Sat (PI.tYes e h) QB) (QB true h) := ⟨Sat.tYes⟩
/-! ### a def -/
def retK (Q : D → Hh → Prop) : Fl → Hh → Prop
  | .rt d, h => Q d h
  | .nx _, h => Q .non h
  | _, _ => False
theorem retK.rt (s : Q d h) : retK Q (.rt d) h := s
instance  : Red (retK Q (.rt d) h) (Q d h) := ⟨retK.rt⟩
theorem retK.nx (s : Q .non h) : retK Q (.nx e) h := s
instance  : Red (retK Q (.nx e) h) (Q .non h) := ⟨retK.nx⟩
theorem Sat.body {n ps : Nat} {b : SDen} (c : ds.length = ps) (s : Sat (b (ds.map some ++ List.replicate (n - ps) none) h) (retK Q)) : Sat (runBody n b ps ds h) Q := by
  unfold runBody
  rw [if_pos c]
  refine .bn (s.mono fun f h1 q => ?_)
  cases f with
  | rt d => exact .ok q
  | nx e => exact .ok q
  | bk e => exact q.elim
  | ct e => exact q.elim
  | xc c fs e => exact q.elim
end
/-! ### heaps -/
/-- all that was is as it was -/
def Ext (h h' : Hh) : Prop := h.length ≤ h'.length ∧ ∀ i, i < h.length → h'[i]? = h[i]?
theorem Ext.refl (h : Hh) : Ext h h := ⟨Nat.le_refl _, fun _ _ => rfl⟩
theorem Ext.trans {h h1 h2 : Hh} (a : Ext h h1) (b : Ext h1 h2) : Ext h h2 := ⟨Nat.le_trans a.1 b.1, fun i hi => (b.2 i (Nat.lt_of_lt_of_le hi a.1)).trans (a.2 i hi)⟩
theorem Ext.push {h : Hh} {o : Ob} : Ext h (h ++ [o]) := ⟨by simp, fun i hi => List.getElem?_append_left hi⟩
theorem Ext.set {h h' : Hh} {n : Nat} {o : Ob} (a : Ext h h') (hn : h.length ≤ n) : Ext h (h'.set n o) := ⟨by simpa using a.1, fun i hi => by
  rw [List.getElem?_set_ne (by omega)]
  exact a.2 i hi⟩
theorem Ext.at {h h' : Hh} {n : Nat} {o : Ob} (a : Ext h h') (e : h[n]? = some o) : h'[n]? = some o := by
  rw [a.2 n (List.getElem?_eq_some_iff.mp e).1]
  exact e
theorem at_push {h : Hh} {o : Ob} : (h ++ [o])[h.length]? = some o := by simp
theorem at_set {h : Hh} {n : Nat} {o u : Ob} (e : h[n]? = some u) : (h.set n o)[n]? = some o := List.getElem?_set_self (List.getElem?_eq_some_iff.mp e).1
theorem lt_of_at {h : Hh} {n : Nat} {o : Ob} (e : h[n]? = some o) : n < h.length := (List.getElem?_eq_some_iff.mp e).1
/-- all but n is as it was -/
def But (n : Nat) (h h' : Hh) : Prop := h.length ≤ h'.length ∧ ∀ i, i < h.length → i ≠ n → h'[i]? = h[i]?
theorem But.refl (n : Nat) (h : Hh) : But n h h := ⟨Nat.le_refl _, fun _ _ _ => rfl⟩
theorem But.trans {n : Nat} {h h1 h2 : Hh} (a : But n h h1) (b : But n h1 h2) : But n h h2 := ⟨Nat.le_trans a.1 b.1, fun i hi hn => (b.2 i (Nat.lt_of_lt_of_le hi a.1) hn).trans (a.2 i hi hn)⟩
theorem But.at {n m : Nat} {h h' : Hh} {o : Ob} (a : But n h h') (hm : m ≠ n) (e : h[m]? = some o) : h'[m]? = some o := by
  rw [a.2 m (List.getElem?_eq_some_iff.mp e).1 hm]
  exact e
theorem Ext.but {h h' : Hh} (n : Nat) (a : Ext h h') : But n h h' := ⟨a.1, fun i hi _ => a.2 i hi⟩
theorem But.set {n : Nat} {h h' : Hh} {o : Ob} (a : But n h h') : But n h (h'.set n o) := ⟨by simpa using a.1, fun i hi hn => by
  rw [List.getElem?_set_ne (by omega)]
  exact a.2 i hi hn⟩
theorem But.set2 {n m : Nat} {h h' : Hh} {o : Ob} (a : But n h h') (hm : h.length ≤ m) : But n h (h'.set m o) := ⟨by simpa using a.1, fun i hi hn => by
  rw [List.getElem?_set_ne (by omega)]
  exact a.2 i hi hn⟩
/-- what lies at indices of lists -/
theorem atIx_nat {γ : Type} {xs : List γ} {i : Nat} {x : γ} (e : xs[i]? = some x) : atIx xs (i : Int) = some x := by
  have hi := (List.getElem?_eq_some_iff.mp e).1
  have c1 : (0 : Int) ≤ (i : Int) := by omega
  have c2 : (i : Int) < (xs.length : Int) := by omega
  simp only [atIx, ixOf, if_pos c1, if_pos c2, Option.bind, Int.toNat_natCast]
  exact e
theorem atIx_int {γ : Type} {xs : List γ} {i : Int} (h0 : 0 ≤ i) (h1 : i < xs.length) : ∃ x, atIx xs i = some x ∧ xs[i.toNat]? = some x := by
  have e : xs[i.toNat]? = some (xs[i.toNat]'(by omega)) := List.getElem?_eq_getElem _
  refine ⟨_, ?_, e⟩
  have q := atIx_nat e
  rw [Int.toNat_of_nonneg h0] at q
  exact q
section
variable {Q : D → Hh → Prop} {h : Hh} {xs : List D} {d : Int} {n : Nat}
theorem Sat.ixT' (h0 : 0 ≤ d) (h1 : d < xs.length) (q : ∀ x, x ∈ xs → Q x h) : Sat (oIx (.tup xs) (.int d) h) Q := by
  obtain ⟨x, e1, e2⟩ := atIx_int h0 h1
  exact Sat.ixT e1 (q x (List.mem_of_getElem? e2))
theorem Sat.ixL' (e : h[n]? = some (.lst xs)) (h0 : 0 ≤ d) (h1 : d < xs.length) (q : ∀ x, x ∈ xs → Q x h) : Sat (oIx (.ref n) (.int d) h) Q := by
  obtain ⟨x, e1, e2⟩ := atIx_int h0 h1
  exact Sat.ixL e e1 (q x (List.mem_of_getElem? e2))
end
@[simp] theorem items_its (xs : List D) : (Wk.its xs).items = xs := rfl
@[simp] theorem items_lst (n : Nat) (xs : List D) : (Wk.lst n xs).items = xs := rfl
@[simp] theorem items_rvl (n : Nat) (xs : List D) : (Wk.rvl n xs).items = xs.reverse := rfl
section
variable {Q : D → Hh → Prop} {QW : Wk → Hh → Prop} {h : Hh} {e : En} {xs ys : List D} {a : Den} {x0 x1 x2 x3 x4 x5 x : D}
/-- a walk by the value that is walked -/
def wsK (h : Hh) (x : D) (k : Wk → Prop) : Prop := match x with
  | .tup xs => k (.its xs)
  | .rl xs => k (.its xs)
  | .ref n => ∃ xs, h[n]? = some (.lst xs) ∧ k (.lst n xs)
  | _ => False
def rvK (h : Hh) (x : D) (k : Wk → Prop) : Prop := match x with
  | .tup xs => k (.its xs.reverse)
  | .rl xs => k (.its xs.reverse)
  | .ref n => ∃ xs, h[n]? = some (.lst xs) ∧ k (.rvl n xs)
  | _ => False
theorem Sat.wSeq (s : Sat (a e h) fun x h1 => wsK h1 x fun k => QW k h1) : Sat (PI.wSeq a e h) QW := .bind (s.mono fun x h1 q => by
  cases x with
  | tup xs => exact .ok q
  | rl xs => exact .ok q
  | ref n =>
    obtain ⟨xs, e, q⟩ := q
    simp only [lstAt, e]
    exact .ok q
  | _ => exact q.elim)
instance  : Red (Sat (PI.wSeq a e h) QW) (Sat (a e h) fun x h1 => wsK h1 x fun k => QW k h1) := ⟨Sat.wSeq⟩
theorem Sat.wRev (s : Sat (a e h) fun x h1 => rvK h1 x fun k => QW k h1) : Sat (PI.wRev a e h) QW := .bind (s.mono fun x h1 q => by
  cases x with
  | tup xs => exact .ok q
  | rl xs => exact .ok q
  | ref n =>
    obtain ⟨xs, e, q⟩ := q
    simp only [lstAt, e]
    exact .ok q
  | _ => exact q.elim)
instance  : Red (Sat (PI.wRev a e h) QW) (Sat (a e h) fun x h1 => rvK h1 x fun k => QW k h1) := ⟨Sat.wRev⟩
theorem wsK.tup {k : Wk → Prop} (q : k (.its xs)) : wsK h (.tup xs) k := q
instance {k : Wk → Prop} : Red (wsK h (.tup xs) k) (k (.its xs)) := ⟨wsK.tup⟩
theorem wsK.lst {n : Nat} {k : Wk → Prop} (e : h[n]? = some (.lst xs)) (q : k (.lst n xs)) : wsK h (.ref n) k := ⟨xs, e, q⟩
theorem rvK.tup {k : Wk → Prop} (q : k (.its xs.reverse)) : rvK h (.tup xs) k := q
instance {k : Wk → Prop} : Red (rvK h (.tup xs) k) (k (.its xs.reverse)) := ⟨rvK.tup⟩
theorem rvK.lst {n : Nat} {k : Wk → Prop} (e : h[n]? = some (.lst xs)) (q : k (.rvl n xs)) : rvK h (.ref n) k := ⟨xs, e, q⟩
theorem Sat.ix0 (q : Q x0 h) : Sat (oIx (.tup (x0 :: xs)) (.int 0) h) Q := Sat.ixT (atIx_nat (i := 0) rfl) q
instance  : Red (Sat (oIx (.tup (x0 :: xs)) (.int 0) h) Q) (Q x0 h) := ⟨Sat.ix0⟩
theorem Sat.ix1 (q : Q x1 h) : Sat (oIx (.tup (x0 :: x1 :: xs)) (.int 1) h) Q := Sat.ixT (atIx_nat (i := 1) rfl) q
instance  : Red (Sat (oIx (.tup (x0 :: x1 :: xs)) (.int 1) h) Q) (Q x1 h) := ⟨Sat.ix1⟩
theorem Sat.ix2 (q : Q x2 h) : Sat (oIx (.tup (x0 :: x1 :: x2 :: xs)) (.int 2) h) Q := Sat.ixT (atIx_nat (i := 2) rfl) q
instance  : Red (Sat (oIx (.tup (x0 :: x1 :: x2 :: xs)) (.int 2) h) Q) (Q x2 h) := ⟨Sat.ix2⟩
theorem Sat.ix3 (q : Q x3 h) : Sat (oIx (.tup (x0 :: x1 :: x2 :: x3 :: xs)) (.int 3) h) Q := Sat.ixT (atIx_nat (i := 3) rfl) q
instance  : Red (Sat (oIx (.tup (x0 :: x1 :: x2 :: x3 :: xs)) (.int 3) h) Q) (Q x3 h) := ⟨Sat.ix3⟩
theorem Sat.ix4 (q : Q x4 h) : Sat (oIx (.tup (x0 :: x1 :: x2 :: x3 :: x4 :: xs)) (.int 4) h) Q := Sat.ixT (atIx_nat (i := 4) rfl) q
instance  : Red (Sat (oIx (.tup (x0 :: x1 :: x2 :: x3 :: x4 :: xs)) (.int 4) h) Q) (Q x4 h) := ⟨Sat.ix4⟩
theorem Sat.ix5 (q : Q x5 h) : Sat (oIx (.tup (x0 :: x1 :: x2 :: x3 :: x4 :: x5 :: xs)) (.int 5) h) Q := Sat.ixT (atIx_nat (i := 5) rfl) q
instance  : Red (Sat (oIx (.tup (x0 :: x1 :: x2 :: x3 :: x4 :: x5 :: xs)) (.int 5) h) Q) (Q x5 h) := ⟨Sat.ix5⟩
theorem atIx_last {γ : Type} (xs : List γ) (x : γ) : atIx (xs ++ [x]) (-1) = some x := by
  have c1 : ¬ (0 : Int) ≤ -1 := by decide
  have c2 : -(((xs ++ [x]).length : Nat) : Int) ≤ -1 := by
    rw [List.length_append, List.length_singleton]
    omega
  simp only [atIx, ixOf, if_neg c1, if_pos c2, Option.bind]
  have e : ((-1 : Int) + (((xs ++ [x]).length : Nat) : Int)).toNat = xs.length := by
    rw [List.length_append, List.length_singleton]
    omega
  rw [e]
  simp
theorem Sat.ixLast (q : Q x h) : Sat (oIx (.tup (xs ++ [x])) (.int (-1)) h) Q := Sat.ixT (atIx_last xs x) q
theorem cut_init {γ : Type} (xs : List γ) (x : γ) : cut (xs ++ [x]) none (some (-1)) = xs := by
  have e : ((-1 : Int) + ((xs.length + 1 : Nat) : Int)).toNat = xs.length := by omega
  simp only [cut, sIdx, List.length_append, List.length_singleton, if_pos (show (-1 : Int) < 0 by decide), e, List.drop_zero, Nat.sub_zero]
  simp
end
section
variable {Q : D → Hh → Prop} {QW : Wk → Hh → Prop} {h : Hh} {e : En} {xs ys : List D} {a b : Den} {x : D} {c w : Bool}
theorem Sat.isB (q : isBl c x = some w) (s : Q (.bl w) h) : Sat (cIsB x (.bl c) h) Q := by
  simp only [cIsB, q]
  exact .ok s
theorem Sat.notB (q : isBl c x = some w) (s : Q (.bl (!w)) h) : Sat (cNotB x (.bl c) h) Q := by
  simp only [cNotB, q]
  exact .ok s
theorem Sat.inT (q : inItems x xs = some w) (s : Q (.bl w) h) : Sat (cIn x (.tup xs) h) Q := by
  simp only [cIn, inR, q]
  exact .ok s
theorem Sat.ninT (q : inItems x xs = some w) (s : Q (.bl (!w)) h) : Sat (cNin x (.tup xs) h) Q := by
  simp only [cNin, inR, q]
  exact .ok s
theorem Sat.inL {n : Nat} (e : h[n]? = some (.lst xs)) (q : inItems x xs = some w) (s : Q (.bl w) h) : Sat (cIn x (.ref n) h) Q := by
  simp only [cIn, inR, listOf, lstAt, e, q]
  exact .ok s
theorem Sat.ninL {n : Nat} (e : h[n]? = some (.lst xs)) (q : inItems x xs = some w) (s : Q (.bl (!w)) h) : Sat (cNin x (.ref n) h) Q := by
  simp only [cNin, inR, listOf, lstAt, e, q]
  exact .ok s
def zpK (x y : D) (h : Hh) (k : List D → Prop) : Prop := match x, y with
  | .tup xs, .tup ys => k (zipD xs ys)
  | _, _ => False
theorem zpK.mk {k : List D → Prop} (q : k (zipD xs ys)) : zpK (.tup xs) (.tup ys) h k := q
instance {k : List D → Prop} : Red (zpK (.tup xs) (.tup ys) h k) (k (zipD xs ys)) := ⟨zpK.mk⟩
theorem Sat.zipL (s : Sat (a e h) fun x h1 => Sat (b e h1) fun y h2 => zpK x y h2 fun zs => Q (.ref h2.length) (h2 ++ [.lst zs])) : Sat (dZipL a b e h) Q := .bind (s.mono fun x h1 s => .bind (s.mono fun y h2 q => by
  cases x <;> first
    | exact q.elim
    | skip
  cases y <;> first
    | exact q.elim
    | skip
  exact .ok q))
instance  : Red (Sat (dZipL a b e h) Q) (Sat (a e h) fun x h1 => Sat (b e h1) fun y h2 => zpK x y h2 fun zs => Q (.ref h2.length) (h2 ++ [.lst zs])) := ⟨Sat.zipL⟩
def zwK (x y : D) (h : Hh) (k : Wk → Prop) : Prop := match x, y with
  | .tup xs, .tup ys => k (.its (zipD xs ys))
  | .ref m, .ref n => ∃ xs ys, h[m]? = some (.lst xs) ∧ h[n]? = some (.lst ys) ∧ k (.zpl m xs n ys)
  | _, _ => False
theorem zwK.tup {k : Wk → Prop} (q : k (.its (zipD xs ys))) : zwK (.tup xs) (.tup ys) h k := q
instance {k : Wk → Prop} : Red (zwK (.tup xs) (.tup ys) h k) (k (.its (zipD xs ys))) := ⟨zwK.tup⟩
theorem zwK.lst {m n : Nat} {k : Wk → Prop} (e1 : h[m]? = some (.lst xs)) (e2 : h[n]? = some (.lst ys)) (q : k (.zpl m xs n ys)) : zwK (.ref m) (.ref n) h k := ⟨xs, ys, e1, e2, q⟩
theorem Sat.wZip (s : Sat (a e h) fun x h1 => Sat (b e h1) fun y h2 => zwK x y h2 fun w => QW w h2) : Sat (PI.wZip a b e h) QW := .bind (s.mono fun x h1 s => .bind (s.mono fun y h2 q => by
  cases x <;> first
    | exact q.elim
    | skip
  · cases y <;> first
      | exact q.elim
      | skip
    exact .ok q
  · cases y <;> first
      | exact q.elim
      | skip
    obtain ⟨xs, ys, e1, e2, q⟩ := q
    simp only [lstAt, e1, e2]
    exact .ok q))
instance  : Red (Sat (PI.wZip a b e h) QW) (Sat (a e h) fun x h1 => Sat (b e h1) fun y h2 => zwK x y h2 fun w => QW w h2) := ⟨Sat.wZip⟩
theorem Sat.revL {n : Nat} (e : h[n]? = some (.lst xs)) (q : Q (.ref h.length) (h ++ [.lst xs.reverse])) : Sat (oRev (.ref n) h) Q := by
  simp only [oRev, listOf, lstAt, e]
  exact .ok q
theorem Sat.str {i : Int} (c : i.natAbs.log2 < 1920) (q : Q (.str (decStr i)) h) : Sat (bStr [.int i] h) Q := by
  simp only [bStr, if_pos c]
  exact .ok q
theorem Sat.index {n j : Nat} (e : h[n]? = some (.lst xs)) (c : (D.fitL xs && x.fit) = true) (ej : idxOf x xs = some j) (q : Q (.int (j : Nat)) h) : Sat (mIndex (.ref n) [x] h) Q := by
  simp only [mIndex, listOf, lstAt, e, if_pos c, ej]
  exact .ok q
end
end PI
/-! ## PiH -/
set_option Elab.async false
set_option linter.all false
set_option maxRecDepth 100000
set_option maxHeartbeats 1000000
set_option autoImplicit false
/-! PI, helpers that many laws share. -/
namespace PI
local macro_rules | `(tactic| walk_at "pi") => `(tactic| (
  first
  | (with_reducible refine PI.red ?_)
  | ((with_reducible show PI.Sat (PI.dVar _ _ _) _); refine Sat.var rfl ?_)
  | ((with_reducible show PI.Sat (PI.sAug _ _ _ _ _) _); refine Sat.aug rfl ?_)
  | ((with_reducible show PI.npK _ _ _); refine npK.mk rfl ?_)
  | ((with_reducible show PI.szK _ _); refine szK.mk (by simp only [List.length_cons, List.length_nil]; decide) ?_)
  | ((with_reducible show PI.isaK _ _ _ _); refine isaK.mk rfl ?_)
  | ((with_reducible show PI.ifK _ _ _); first | (refine ifK.t (by rfl) ?_) | (refine ifK.f (by rfl) ?_))
  | ((with_reducible show PI.Sat (PI.gTp _ _ _ _ _) _); refine Sat.gTp rfl ?_)
  | ((with_reducible show PI.Sat (PI.cIsB _ _ _) _); refine Sat.isB rfl ?_)
  | ((with_reducible show PI.Sat (PI.cNotB _ _ _) _); refine Sat.notB rfl ?_)
  | ((with_reducible show PI.Sat (PI.cIn _ (PI.D.tup _) _) _); refine Sat.inT rfl ?_)
  | ((with_reducible show PI.Sat (PI.cNin _ (PI.D.tup _) _) _); refine Sat.ninT rfl ?_)
  | ((with_reducible show PI.Sat (PI.cIsN _ _) _); refine Sat.isN rfl ?_)
  | ((with_reducible show PI.Sat (PI.cNotN _ _) _); refine Sat.notN rfl ?_)
  | ((with_reducible show PI.Sat (PI.oPow _ _ _) _); refine Sat.powI (by decide) ?_)))
theorem Sat.start {T : Nat → Df} {k n ps f : Nat} {b : Cal → SDen} {ds : List D} {h : Hh} {Q : D → Hh → Prop} (hT : T k = ⟨n, ps, b⟩) (c : ds.length = ps) (s : Sat (b (sem T f) (ds.map some ++ List.replicate (n - ps) none) h) (retK Q)) : Sat (sem T (f + 1) k ds h) Q := by
  unfold sem
  rw [hT]
  exact Sat.body c s
theorem Sat.start3 {T : Nat → Df} {k f : Nat} {b : Cal → SDen} {d0 d1 d2 : D} {h : Hh} {Q : D → Hh → Prop} (hT : T k = ⟨3, 3, b⟩) (s : Sat (b (sem T f) [some d0, some d1, some d2] h) (retK Q)) : Sat (sem T (f + 1) k [d0, d1, d2] h) Q := .start hT rfl s
/-! ### _law_pick(tape, at, many) over a list of ints -/
def pickB : SDen :=
 (sRet (dBin oMod (dArgs bInt (aCons (dBin oIx (dVar 0) (dBin oMod (dArgs bInt (aCons (dVar 1) aNil)) (dArgs bLen (aCons (dVar 0) aNil)))) aNil)) (dVar 2)))
theorem pick_ok {T : Nat → Df} {k f : Nat} (hT : T k = ⟨3, 3, fun _ => pickB⟩) {h : Hh} {t : Nat} {xs : List Int} {i m : Int} (e : h[t]? = some (.lst (xs.map .int))) (hx : xs ≠ []) (hm : 0 < m) :
    Sat (sem T (f + 1) k [.ref t, .int i, .int m] h) fun r h' => h' = h ∧ ∃ d : Int, r = .int d ∧ 0 ≤ d ∧ d < m := by
  have hl : 0 < xs.length := by
    cases xs with
    | nil => exact absurd rfl hx
    | cons _ _ => simp
  refine Sat.start3 hT ?_
  unfold pickB
  repeat walk_at "pi"
  refine Sat.lenL e ?_
  rw [List.length_map]
  refine Sat.modI (by omega) ?_
  have m0 : 0 ≤ i.fmod xs.length := Int.fmod_nonneg_of_pos _ (by omega)
  have m1 : i.fmod xs.length < xs.length := Int.fmod_lt_of_pos _ (by omega)
  obtain ⟨x, e1, e2⟩ := atIx_int (xs := xs.map D.int) m0 (by rw [List.length_map]; exact m1)
  refine Sat.ixL e e1 ?_
  rw [List.getElem?_map, Option.map_eq_some_iff] at e2
  obtain ⟨y, _, rfl⟩ := e2
  repeat walk_at "pi"
  refine Sat.modI (by omega) ?_
  repeat walk_at "pi"
  exact ⟨rfl, _, rfl, Int.fmod_nonneg_of_pos _ hm, Int.fmod_lt_of_pos _ hm⟩
/-! ### _law_same(a, b) -/
def sameB (k : Nat) (c : Cal) : SDen :=
 (sSeq (sIf (PI.tOr (PI.tAnd (tT (dIsA .tuple (dVar 0))) (tT (dIsA .tuple (dVar 1)))) (PI.tAnd (tT (dIsA .list (dVar 0))) (tT (dIsA .list (dVar 1)))))
 (sRet (dAnd (dBin cEq (dArgs bLen (aCons (dVar 0) aNil)) (dArgs bLen (aCons (dVar 1) aNil))) (dArgs fAll (aComp (wRng1 (dArgs bLen (aCons (dVar 0) aNil))) [2] (gNm 2) PI.tYes (dCallN c k 2 (aCons (dBin oIx (dVar 0) (dVar 2)) (aCons (dBin oIx (dVar 1) (dVar 2)) aNil)))))))
 sNil)
 (sSeq (sIf (PI.tAnd (tT (dIsA .dict (dVar 0))) (tT (dIsA .dict (dVar 1))))
 (sRet (dAnd (dBin cEq (dArgs bLen (aCons (dVar 0) aNil)) (dArgs bLen (aCons (dVar 1) aNil))) (dArgs fAll (aComp (wSeq (dVar 0)) [3] (gNm 3) PI.tYes (dAnd (dBin cIn (dVar 3) (dVar 1)) (dCallN c k 2 (aCons (dBin oIx (dVar 0) (dVar 3)) (aCons (dBin oIx (dVar 1) (dVar 3)) aNil))))))))
 sNil)
 (sSeq (sIf (PI.tOr (tT (dIsA .bool (dVar 0))) (tT (dIsA .bool (dVar 1))))
 (sRet (dAnd (dIsA .bool (dVar 0)) (dAnd (dIsA .bool (dVar 1)) (dBin cEq (dVar 0) (dVar 1)))))
 sNil)
 (sSeq (sIf (PI.tOr (PI.tAnd (tT (dIsA .int (dVar 0))) (tT (dIsA .int (dVar 1)))) (PI.tAnd (tT (dIsA .str (dVar 0))) (tT (dIsA .str (dVar 1)))))
 (sRet (dBin cEq (dVar 0) (dVar 1)))
 sNil)
 (sRet (dAnd (dUn cIsN (dVar 0)) (dUn cIsN (dVar 1))))))))
mutual
/-- data of scalars and tuples alone -/
def D.plain : D → Bool
  | .non => true | .bl _ => true | .int _ => true | .str _ => true
  | .tup xs => decide (xs.length ≤ SL) && D.plainL xs
  | _ => false
def D.plainL : List D → Bool
  | [] => true
  | x :: xs => D.plain x && D.plainL xs
end
theorem plainL_at : ∀ {xs : List D} {i : Nat} {d : D}, D.plainL xs = true → xs[i]? = some d → d.plain = true
  | [], i, d, _, e => by simp at e
  | x :: xs, 0, d, h, e => by
    simp only [D.plainL, Bool.and_eq_true] at h
    simp at e
    rw [← e]
    exact h.1
  | x :: xs, i + 1, d, h, e => by
    simp only [D.plainL, Bool.and_eq_true] at h
    exact plainL_at h.2 (by simpa using e)
theorem deepL_at : ∀ {xs : List D} {i : Nat} {d : D}, xs[i]? = some d → d.deep ≤ D.deepL xs
  | [], i, d, e => by simp at e
  | x :: xs, 0, d, e => by
    simp at e
    rw [← e, D.deepL]
    omega
  | x :: xs, i + 1, d, e => by
    have q := deepL_at (xs := xs) (i := i) (d := d) (by simpa using e)
    rw [D.deepL]
    omega
theorem sameL_all : ∀ {xs ys : List D}, xs.length = ys.length → D.sameL xs ys = ((List.range xs.length).map fun i => (xs[i]?.bind fun x => ys[i]?.map fun y => D.same x y).getD false).all id
  | [], [], _ => by simp [D.sameL]
  | [], y :: ys, h => by simp at h
  | x :: xs, [], h => by simp at h
  | x :: xs, y :: ys, h => by
    have ih := sameL_all (xs := xs) (ys := ys) (by simpa using h)
    rw [D.sameL, ih, List.length_cons, List.range_succ_eq_map, List.map_cons, List.all_cons, List.map_map]
    rfl
theorem blsOf_map : ∀ bs : List Bool, blsOf (bs.map D.bl) = some bs
  | [] => rfl
  | b :: bs => by simp [blsOf, blsOf_map bs]
theorem lineI_len {n : Nat} (h : n ≤ SL) : lineI (n : Int) := by
  unfold lineI SL at *
  constructor <;> omega
theorem Sat.start2 {T : Nat → Df} {k f : Nat} {b : Cal → SDen} {d0 d1 : D} {h : Hh} {Q : D → Hh → Prop} (hT : T k = ⟨4, 2, b⟩) (s : Sat (b (sem T f) [some d0, some d1, none, none] h) (retK Q)) : Sat (sem T (f + 1) k [d0, d1] h) Q := .start hT rfl s
def D.isTup : D → Bool
  | .tup _ => true
  | _ => false
theorem same_base {T : Nat → Df} {k : Nat} (hT : T k = ⟨4, 2, sameB k⟩) (f : Nat) (a b : D) (h : Hh) (ha : a.plain = true) (hb : b.plain = true) (hn : (a.isTup && b.isTup) = false) : Sat (sem T (f + 1) k [a, b] h) fun r h' => h' = h ∧ r = .bl (D.same a b) := by
  refine .start2 hT ?_
  unfold sameB
  cases a <;> first
    | (simp [D.plain] at ha; done)
    | (cases b <;> first
      | (simp [D.plain] at hb; done)
      | (simp [D.isTup] at hn; done)
      | (repeat walk_at "pi"
         all_goals simp [D.same, beq_dec]))
theorem same_tup {T : Nat → Df} {k : Nat} (hT : T k = ⟨4, 2, sameB k⟩) (f : Nat) (xs ys : List D) (h : Hh) (hl : xs.length ≤ SL)
    (ih : ∀ (i : Nat) (x y : D), xs[i]? = some x → ys[i]? = some y → Sat (sem T f k [x, y] h) fun r h' => h' = h ∧ r = .bl (D.same x y)) : Sat (sem T (f + 1) k [.tup xs, .tup ys] h) fun r h' => h' = h ∧ r = .bl (D.same (.tup xs) (.tup ys)) := by
  refine .start2 hT ?_
  unfold sameB
  repeat walk_at "pi"
  refine ifK.d (fun hlen => ?_) fun hlen => ?_
  · have hlen : xs.length = ys.length := by omega
    repeat walk_at "pi"
    refine ⟨lineI_len hl, ?_⟩
    repeat walk_at "pi"
    refine Sat.compIx (fun i acc h' => h' = h ∧ acc = ((List.range i).map fun i => D.bl ((xs[i]?.bind fun x => ys[i]?.map fun y => D.same x y).getD false))) ⟨rfl, rfl⟩ (fun _ _ _ _ => rfl) (fun i d acc h' e ⟨eh, ea⟩ => ?_) fun acc h' ⟨eh, ea⟩ => ?_
    · obtain ⟨hi, rfl⟩ := rng_at e
      subst eh
      have hi : i < xs.length := by simpa using hi
      have e0 : (0 : Int) + (i : Int) = (i : Int) := by omega
      rw [e0]
      have ex : xs[i]? = some xs[i] := List.getElem?_eq_getElem hi
      have ey : ys[i]? = some (ys[i]'(by omega)) := List.getElem?_eq_getElem (by omega)
      repeat walk_at "pi"
      refine Sat.ixT (atIx_nat ex) ?_
      repeat walk_at "pi"
      refine Sat.ixT (atIx_nat ey) ?_
      repeat walk_at "pi"
      refine (ih i _ _ ex ey).mono fun r h2 ⟨eh, er⟩ => ?_
      subst eh er
      refine ⟨by rw [ea]; simp; omega, rfl, ?_⟩
      rw [ea, List.range_succ, List.map_append, List.map_singleton, ex, ey]
      rfl
    · subst eh
      rw [rng_len] at ea
      refine Sat.fAll (bs := (List.range xs.length).map fun i => (xs[i]?.bind fun x => ys[i]?.map fun y => D.same x y).getD false) ?_ ?_
      · rw [ea, ← blsOf_map ((List.range xs.length).map _), List.map_map]
        simp
        rfl
      · repeat walk_at "pi"
        refine ⟨rfl, ?_⟩
        rw [D.same, sameL_all hlen]
  · repeat walk_at "pi"
    refine ⟨rfl, ?_⟩
    have hne : ∀ {xs ys : List D}, xs.length ≠ ys.length → D.sameL xs ys = false := fun {xs} => by
      induction xs with
      | nil => intro ys h; cases ys <;> simp_all [D.sameL]
      | cons x xs ih => intro ys h; cases ys with
        | nil => rfl
        | cons y ys => rw [D.sameL, ih (by simpa using h), Bool.and_false]
    rw [D.same, hne (by omega), decide_eq_false hlen]
/-- on such data _law_same tells whether they are the same -/
theorem same_ok {T : Nat → Df} {k : Nat} (hT : T k = ⟨4, 2, sameB k⟩) : ∀ (f : Nat) (a b : D) (h : Hh), a.plain = true → b.plain = true → a.deep ≤ f → Sat (sem T (f + 1) k [a, b] h) fun r h' => h' = h ∧ r = .bl (D.same a b)
  | f, a, b, h, ha, hb, hd => by
    cases hn : a.isTup && b.isTup with
    | false => exact same_base hT f a b h ha hb hn
    | true =>
      cases a <;> first
        | (cases hn; done)
        | skip
      cases b <;> first
        | (cases hn; done)
        | skip
      rename_i xs ys
      rw [D.deep] at hd
      simp only [D.plain, Bool.and_eq_true, decide_eq_true_eq] at ha hb
      cases f with
      | zero => omega
      | succ f =>
        refine same_tup hT (f + 1) xs ys h ha.1 fun i x y ex ey => same_ok hT f x y h (plainL_at ha.2 ex) (plainL_at hb.2 ey) ?_
        have := deepL_at ex
        omega
end PI
/-! ## PiT -/
set_option Elab.async false
set_option linter.all false
set_option maxRecDepth 100000
set_option maxHeartbeats 1000000
set_option autoImplicit false
/-! PI, helpers: the tapes. -/
namespace PI
local macro_rules | `(tactic| walk_at "pi") => `(tactic| (
  first
  | (with_reducible refine PI.red ?_)
  | ((with_reducible show PI.Sat (PI.dVar _ _ _) _); refine Sat.var rfl ?_)
  | ((with_reducible show PI.Sat (PI.sAug _ _ _ _ _) _); refine Sat.aug rfl ?_)
  | ((with_reducible show PI.npK _ _ _); refine npK.mk rfl ?_)
  | ((with_reducible show PI.szK _ _); refine szK.mk (by simp only [List.length_cons, List.length_nil]; decide) ?_)
  | ((with_reducible show PI.isaK _ _ _ _); refine isaK.mk rfl ?_)
  | ((with_reducible show PI.ifK _ _ _); first | (refine ifK.t (by rfl) ?_) | (refine ifK.f (by rfl) ?_))
  | ((with_reducible show PI.Sat (PI.gTp _ _ _ _ _) _); refine Sat.gTp rfl ?_)
  | ((with_reducible show PI.Sat (PI.cIsB _ _ _) _); refine Sat.isB rfl ?_)
  | ((with_reducible show PI.Sat (PI.cNotB _ _ _) _); refine Sat.notB rfl ?_)
  | ((with_reducible show PI.Sat (PI.cIn _ (PI.D.tup _) _) _); refine Sat.inT rfl ?_)
  | ((with_reducible show PI.Sat (PI.cNin _ (PI.D.tup _) _) _); refine Sat.ninT rfl ?_)
  | ((with_reducible show PI.Sat (PI.cIsN _ _) _); refine Sat.isN rfl ?_)
  | ((with_reducible show PI.Sat (PI.cNotN _ _) _); refine Sat.notN rfl ?_)
  | ((with_reducible show PI.Sat (PI.oPow _ _ _) _); refine Sat.powI (by decide) ?_)))
theorem log_lt {n k : Nat} (h : n < 2 ^ k) (hk : 0 < k) : n.log2 < k := by
  by_cases e : n = 0
  · subst e
    simpa using hk
  · exact (Nat.log2_lt e).mpr h
theorem mulOk_of {x y : Int} {a b : Nat} (hx : x.natAbs.log2 < a) (hy : y.natAbs.log2 < b) (hab : a + b ≤ 100000000) : mulOk x y := by
  unfold mulOk MUL
  omega
theorem intsOf_map : ∀ is : List Int, intsOf (is.map D.int) = some is
  | [] => rfl
  | i :: is => by simp [intsOf, intsOf_map is]
theorem maxL_mem : ∀ (is : List Int) (m : Int), maxL m is = m ∨ maxL m is ∈ is
  | [], m => .inl rfl
  | i :: is, m => by
    rw [maxL]
    rcases maxL_mem is (if i > m then i else m) with e | e
    · split at e
      · rename_i c
        rw [if_pos c, e]
        exact .inr (by simp)
      · rename_i c
        rw [if_neg c, e]
        exact .inl rfl
    · exact .inr (List.mem_cons_of_mem _ e)
theorem Sat.max1 {h : Hh} {Q : D → Hh → Prop} {n : Nat} {i : Int} {is : List Int} (e : h[n]? = some (.lst ((i :: is).map .int))) (q : Q (.int (maxL i is)) h) : Sat (bMax1 [.ref n] h) Q := by
  simp only [bMax1, listOf, lstAt, e, Option.bind, intsOf_map]
  exact .ok q
theorem cut_take {γ : Type} (xs : List γ) (n : Nat) (h : xs.length ≤ n) : cut xs none (some (n : Int)) = xs := by
  simp only [cut, sIdx, List.drop_zero, Nat.sub_zero]
  rw [if_neg (by omega), Int.toNat_natCast, Nat.min_eq_right h, List.take_length]
def tape2R : SDen :=
 (sSeq (sAsg (dBin oAdd (dC (.int 12345)) (dArgs bLen (aCons (dVar 2) aNil))) (gNm 5))
 (sSeq (sAsg (dLst aNil) (gNm 6))
 (sSeq (sFor (wRng1 (dVar 1)) (gNm 7)
 (sIf (tV (dBin cGt (dVar 4) (dC (.int 0))))
 (sSeq (sExpr (dMeth mAppend (dVar 6) (aCons (dBin oMod (dArgs bInt (aCons (dVar 4) aNil)) (dC (.int 1009))) aNil)))
 (sAsg (dBin oDiv (dVar 4) (dC (.int 1009))) (gNm 4)))
 (sSeq (sAsg (dBin oMod (dArgs bInt (aCons (dBin oAdd (dBin oAdd (dBin oMul (dVar 5) (dC (.int 48271))) (dBin oMul (dBin oIx (dVar 2) (dBin oMod (dArgs bInt (aCons (dVar 7) aNil)) (dArgs bLen (aCons (dVar 2) aNil)))) (dC (.int 69621)))) (dVar 7)) aNil)) (dC (.int 2147483647))) (gNm 5))
 (sExpr (dMeth mAppend (dVar 6) (aCons (dBin oMod (dArgs bInt (aCons (dBin oAdd (dBin oMul (dVar 5) (dC (.int 16807))) (dBin oMul (dVar 7) (dC (.int 7919)))) aNil)) (dC (.int 1000003))) aNil))))))
 (sRet (dVar 6)))))
def tape2B (_ : Cal) : SDen :=
 (sSeq (sAsg (dLst (aCons (dC (.int 0)) aNil)) (gNm 2))
 (sSeq (sFor (wSeq (dSl (dVar 0) pNone (pSome (dC (.int 63))))) (gNm 3)
 (sExpr (dMeth mAppend (dVar 2) (aCons (dArgs bAbs (aCons (dVar 3) aNil)) aNil))))
 (sSeq (sAsg (dArgs bMax1 (aCons (dVar 2) aNil)) (gNm 4))
 (sSeq (sIf (tV (dBin cLt (dVar 4) (dBin oPow (dC (.int 10)) (dC (.int 18)))))
 (sAsg (dC (.int 0)) (gNm 4))
 sNil)
(tape2R)))))
/-- a list of ints, none too long -/
def Cells (cs : List Int) : Prop := cs ≠ [] ∧ cs.length ≤ 64 ∧ ∀ z ∈ cs, z.natAbs.log2 < 1048576
theorem Sat.start28 {T : Nat → Df} {k f : Nat} {b : Cal → SDen} {d0 d1 : D} {h : Hh} {Q : D → Hh → Prop} (hT : T k = ⟨8, 2, b⟩) (s : Sat (b (sem T f) [some d0, some d1, none, none, none, none, none, none] h) (retK Q)) : Sat (sem T (f + 1) k [d0, d1] h) Q := .start hT rfl s
theorem fmod_bd {x m : Int} (hm : 0 < m) : 0 ≤ x.fmod m ∧ x.fmod m < m := ⟨Int.fmod_nonneg_of_pos _ hm, Int.fmod_lt_of_pos _ hm⟩
theorem nat_log_lt {x : Int} {k : Nat} (h0 : 0 ≤ x) (h1 : x < 2 ^ k) (hk : 0 < k) : x.natAbs.log2 < k := log_lt (by
  have e : ((x.natAbs : Nat) : Int) = x := Int.natAbs_of_nonneg h0
  have h2 : ((x.natAbs : Nat) : Int) < ((2 ^ k : Nat) : Int) := by
    rw [e]
    simpa using h1
  exact Int.ofNat_lt.mp h2) hk
theorem tape2_rest {h h0 : Hh} {c : Nat} {d0 : D} {v3 : Option D} {m : Nat} {cs : List Int} {big : Int} (hc : Cells cs) (hm : m ≤ 100000) (hx : Ext h0 h) (hn : h0.length ≤ h.length) (e1 : h[c]? = some (.lst (cs.map .int))) :
    Sat (tape2R [some d0, some (.int m), some (.ref c), v3, some (.int big), none, none, none] h) (retK fun r h' => ∃ (j : Nat) (ts : List Int), r = .ref j ∧ h'[j]? = some (.lst (ts.map .int)) ∧ ts.length = m ∧ Ext h0 h' ∧ h0.length ≤ j) := by
  unfold tape2R
  repeat walk_at "pi"
  refine Sat.lenL e1 ?_
  repeat walk_at "pi"
  refine ⟨⟨by omega, by omega⟩, ?_⟩
  have hcl := lt_of_at e1
  have hc0 : 0 < cs.length := List.length_pos_iff.mpr hc.1
  refine Sat.forIx (fun i e h' => ∃ (ts : List Int) (big val : Int) (v7 : Option D), e = [some d0, some (.int m), some (.ref c), v3, some (.int big), some (.int val), some (.ref h.length), v7] ∧ 0 ≤ val ∧ val < 2 ^ 40 ∧ ts.length = i ∧ Ext h0 h' ∧ h'[c]? = some (.lst (cs.map .int)) ∧ h'[h.length]? = some (.lst (ts.map .int)))
    ⟨[], big, _, none, rfl, by omega, ?_, rfl, hx.trans Ext.push, Ext.push.at e1, at_push⟩ (fun _ _ _ _ => rfl) (fun i d e h' hd ⟨ts, big, val, v7, ee, hv0, hv1, hti, hx', e1', e2⟩ => ?_) fun e h' ⟨ts, big, val, v7, ee, hv0, hv1, hti, hx', e1', e2⟩ => ?_
  · have q := hc.2.1
    rw [List.length_map]
    have : (2 : Int) ^ 40 = 1099511627776 := by decide
    omega
  · obtain ⟨hi, rfl⟩ := rng_at hd
    subst ee
    have hi : i < m := by simpa using hi
    have b40 : (2 : Int) ^ 40 = 1099511627776 := by decide
    repeat walk_at "pi"
    refine ifK.d (fun cc => ?_) fun cc => ?_
    · repeat walk_at "pi"
      refine lsK.mk e2 ?_
      repeat walk_at "pi"
      refine Sat.modI (by decide) ?_
      repeat walk_at "pi"
      refine Sat.append e2 (by rw [List.length_map]; unfold SL; omega) ?_
      repeat walk_at "pi"
      refine Sat.divI (by decide) ?_
      repeat walk_at "pi"
      exact ⟨ts ++ [big.fmod 1009], _, val, _, rfl, hv0, hv1, by simp; omega, hx'.set hn, by rw [List.getElem?_set_ne (by omega)]; exact e1', by rw [at_set e2]; simp⟩
    · repeat walk_at "pi"
      refine Sat.mulI (mulOk_of (nat_log_lt hv0 hv1 (by decide)) (b := 64) (by decide) (by decide)) ?_
      repeat walk_at "pi"
      refine Sat.lenL e1' ?_
      rw [List.length_map]
      refine Sat.modI (by omega) ?_
      have m0 := fmod_bd (x := 0 + (i : Int)) (m := (cs.length : Int)) (by omega)
      obtain ⟨x, f1, f2⟩ := atIx_int (xs := cs.map D.int) m0.1 (by rw [List.length_map]; exact m0.2)
      refine Sat.ixL e1' f1 ?_
      rw [List.getElem?_map, Option.map_eq_some_iff] at f2
      obtain ⟨y, hy, rfl⟩ := f2
      repeat walk_at "pi"
      refine Sat.mulI (mulOk_of (hc.2.2 y (List.mem_of_getElem? hy)) (b := 64) (by decide) (by decide)) ?_
      repeat walk_at "pi"
      refine Sat.modI (by decide) ?_
      repeat walk_at "pi"
      refine lsK.mk e2 ?_
      repeat walk_at "pi"
      have m1 := fmod_bd (x := val * 48271 + y * 69621 + (0 + (i : Int))) (m := 2147483647) (by decide)
      refine Sat.mulI (mulOk_of (nat_log_lt (k := 40) m1.1 (by omega) (by decide)) (b := 64) (by decide) (by decide)) ?_
      repeat walk_at "pi"
      refine Sat.mulI (mulOk_of (nat_log_lt (k := 40) (by omega) (by omega) (by decide)) (b := 64) (by decide) (by decide)) ?_
      repeat walk_at "pi"
      refine Sat.modI (by decide) ?_
      repeat walk_at "pi"
      refine Sat.append e2 (by rw [List.length_map]; unfold SL; omega) ?_
      exact ⟨ts ++ [_], big, _, _, rfl, m1.1, by omega, by simp; omega, hx'.set hn, by rw [List.getElem?_set_ne (by omega)]; exact e1', by rw [at_set e2, List.map_append]; rfl⟩
  · subst ee
    rw [rng_len] at hti
    repeat walk_at "pi"
    exact ⟨_, ts, rfl, e2, by simpa using hti, hx', hn⟩
theorem tape2_ok {T : Nat → Df} {k f : Nat} (hT : T k = ⟨8, 2, tape2B⟩) {h : Hh} {ns : List Int} {m : Nat} (hl : ns.length ≤ 63) (hb : ∀ z ∈ ns, z.natAbs.log2 < 1048576) (hm : m ≤ 100000) :
    Sat (sem T (f + 1) k [.rl (ns.map .int), .int m] h) fun r h' => ∃ (j : Nat) (ts : List Int), r = .ref j ∧ h'[j]? = some (.lst (ts.map .int)) ∧ ts.length = m ∧ Ext h h' ∧ h.length ≤ j := by
  refine .start28 hT ?_
  unfold tape2B
  repeat walk_at "pi"
  have e63 : cut (ns.map D.int) none (some (63 : Int)) = ns.map D.int := cut_take _ 63 (by simpa using hl)
  rw [e63]
  refine wsK.lst at_push ?_
  have e0 : ((h ++ [Ob.lst [D.int 0]]) ++ [Ob.lst (ns.map D.int)])[h.length]? = some (.lst [D.int 0]) := by simp
  have l0 : ((h ++ [Ob.lst [D.int 0]]) ++ [Ob.lst (ns.map D.int)]).length = h.length + 2 := by simp
  refine Sat.forIx (fun i e h' => ∃ (cs : List Int) (v3 : Option D), e = [some (.rl (ns.map .int)), some (.int m), some (.ref h.length), v3, none, none, none, none] ∧ Cells cs ∧ cs.length = i + 1 ∧ Ext h h' ∧ h'.length = h.length + 2 ∧ h'[h.length]? = some (.lst (cs.map .int)) ∧ h'[h.length + 1]? = some (.lst (ns.map .int)))
    ⟨[0], none, rfl, ⟨by simp, by simp, by simp⟩, rfl, Ext.push.trans Ext.push, l0, e0, by simp⟩ (fun i e h' ⟨cs, v3, _, _, _, _, _, _, e2⟩ => Wk.still_lst (by simp only [List.length_append, List.length_singleton, lstAt, e2])) (fun i d e h' hd ⟨cs, v3, ee, hc, hci, hx, hlen, e1, e2⟩ => ?_) fun e h' ⟨cs, v3, ee, hc, hci, hx, hlen, e1, e2⟩ => ?_
  · subst ee
    have hd' : (ns.map D.int)[i]? = some d := hd
    rw [List.getElem?_map, Option.map_eq_some_iff] at hd'
    obtain ⟨z, hz, rfl⟩ := hd'
    have hi : i < ns.length := (List.getElem?_eq_some_iff.mp hz).1
    repeat walk_at "pi"
    refine lsK.mk e1 ?_
    repeat walk_at "pi"
    refine Sat.append e1 (by rw [List.length_map]; unfold SL; omega) ?_
    refine ⟨cs ++ [if z < 0 then -z else z], _, rfl, ⟨by simp, by simp; omega, fun y hy => ?_⟩, by simp; omega, hx.set (Nat.le_refl _), by simpa using hlen, by rw [at_set e1]; simp, by rw [List.getElem?_set_ne (by omega)]; exact e2⟩
    rcases List.mem_append.mp hy with hy | hy
    · exact hc.2.2 y hy
    · rw [List.mem_singleton.mp hy]
      have q := hb z (List.mem_of_getElem? hz)
      split
      · rw [Int.natAbs_neg]
        exact q
      · exact q
  · subst ee
    obtain ⟨hne, hcl, hcb⟩ := hc
    obtain ⟨c0, cr, rfl⟩ := List.exists_cons_of_ne_nil hne
    repeat walk_at "pi"
    refine Sat.max1 e1 ?_
    repeat walk_at "pi"
    refine ifK.d (fun _ => ?_) fun _ => ?_
    · repeat walk_at "pi"
      exact tape2_rest ⟨hne, hcl, hcb⟩ hm hx (by omega) e1
    · repeat walk_at "pi"
      exact tape2_rest ⟨hne, hcl, hcb⟩ hm hx (by omega) e1
end PI
/-! ## PiJ -/
set_option Elab.async false
set_option linter.all false
set_option maxRecDepth 100000
set_option maxHeartbeats 1000000
set_option autoImplicit false
/-! PI, helpers: sep.join, enumerate. -/
namespace PI
section
variable {a b : Den} {e : En} {h : Hh} {QW : Wk → Hh → Prop} {Q : D → Hh → Prop}
theorem Sat.wEnT (xs : List D) (s : Sat (a e h) fun x h1 => x = .tup xs ∧ QW (.its (enumD 0 xs)) h1) : Sat (wEnum a e h) QW := .bind (s.mono fun x h1 ⟨ex, q⟩ => by
  subst ex
  exact .ok q)
theorem Sat.wEnL (n : Nat) (xs : List D) (s : Sat (a e h) fun x h1 => x = .ref n ∧ h1[n]? = some (.lst xs) ∧ QW (.enl n xs) h1) : Sat (wEnum a e h) QW := .bind (s.mono fun x h1 ⟨ex, c, q⟩ => by
  subst ex
  simp only [lstAt, c]
  exact .ok q)
theorem Sat.joinC {s : List Nat} (q : Sat (b e h) fun y h2 => Sat (oJoin (.str s) y h2) Q) : Sat (dJoin (dC (.str s)) b e h) Q := .bind (.ok (.bind q))
instance {s : List Nat} : Red (Sat (dJoin (dC (.str s)) b e h) Q) (Sat (b e h) fun y h2 => Sat (oJoin (.str s) y h2) Q) := ⟨Sat.joinC⟩
theorem strsOf_map : ∀ ys : List (List Nat), strsOf (ys.map .str) = some ys
  | [] => rfl
  | y :: ys => by
    rw [List.map_cons, strsOf, strsOf_map ys]
    rfl
theorem Sat.oJoin {s : List Nat} {ys : List (List Nat)} {n : Nat} (e1 : h[n]? = some (.lst (ys.map .str))) (c : (ys.map List.length).sum + ys.length * s.length ≤ SL) (q : Q (.str (joinN s ys)) h) : Sat (oJoin (.str s) (.ref n) h) Q := by
  have c2 : joinOk s ys = true := decide_eq_true c
  simp only [PI.oJoin, itemsOf, listOf, lstAt, e1, Option.bind, strsOf_map, c2, if_true]
  exact .ok q
theorem Sat.iaddJ {x y : Int} (q : Q (.int (x + y)) h) : Sat (oIadd (.int x) (.int y) h) Q := .ok q
end
end PI
/-! ## PiC -/
set_option Elab.async false
set_option linter.all false
set_option maxRecDepth 100000
set_option maxHeartbeats 4000000
set_option autoImplicit false
/-! PI.GC: blocks of words, what is reached, copies: in plain terms. -/
namespace PI.GC
open PI
structure Bk where
  a : Int
  b : Int
  c : Int
  fs : List Int
def Bk.words (k : Bk) : List Int := [k.a, k.b, k.c, (k.fs.length : Nat)] ++ k.fs
def Bk.sz (k : Bk) : Nat := 4 + k.fs.length
theorem words_len (k : Bk) : k.words.length = k.sz := by simp [Bk.words, Bk.sz]; omega
def mem (bs : List Bk) : List Int := bs.flatMap Bk.words
theorem mem_app (a b : List Bk) : mem (a ++ b) = mem a ++ mem b := by simp [mem]
theorem mem_cons (k : Bk) (b : List Bk) : mem (k :: b) = k.words ++ mem b := rfl
theorem mem_len (bs : List Bk) : (mem bs).length = (bs.map Bk.sz).sum := by
  induction bs with
  | nil => rfl
  | cons k bs ih => rw [mem_cons, List.length_append, words_len, ih, List.map_cons, List.sum_cons]
/-- where a block begins -/
def off (bs : List Bk) (i : Nat) : Nat := ((bs.take i).map Bk.sz).sum
theorem off_zero (bs : List Bk) : off bs 0 = 0 := rfl
theorem off_len (bs : List Bk) (i : Nat) : (mem (bs.take i)).length = off bs i := mem_len _
theorem off_succ {bs : List Bk} {i : Nat} {k : Bk} (h : bs[i]? = some k) : off bs (i + 1) = off bs i + k.sz := by
  unfold off
  rw [List.take_succ, h]
  simp
theorem off_all (bs : List Bk) : off bs bs.length = (mem bs).length := by rw [mem_len, off, List.take_length]
theorem off_app {a b : List Bk} {i : Nat} (h : i ≤ a.length) : off (a ++ b) i = off a i := by
  unfold off
  rw [List.take_append_of_le_length h]
theorem off_lt {bs : List Bk} {i j : Nat} (h : i < j) (hj : j ≤ bs.length) : off bs i < off bs j := by
  induction j with
  | zero => omega
  | succ j ih =>
    have gk := List.getElem?_eq_getElem (l := bs) (i := j) (by omega)
    rw [off_succ gk]
    have : 0 < (bs[j]).sz := by unfold Bk.sz; omega
    rcases Nat.lt_or_ge i j with c | c
    · have := ih c (by omega)
      omega
    · have : i = j := by omega
      subst this
      omega
theorem off_inj {bs : List Bk} {i j : Nat} (hi : i < bs.length) (hj : j < bs.length) (h : off bs i = off bs j) : i = j := by
  rcases Nat.lt_trichotomy i j with c | c | c
  · have := off_lt (bs := bs) c (by omega)
    omega
  · exact c
  · have := off_lt (bs := bs) c (by omega)
    omega
theorem off_sz {bs cs : List Bk} (h : bs.map Bk.sz = cs.map Bk.sz) (i : Nat) : off bs i = off cs i := by
  unfold off
  rw [List.map_take, List.map_take, h]
theorem mem_split {bs : List Bk} {i : Nat} {k : Bk} (h : bs[i]? = some k) : mem bs = mem (bs.take i) ++ (k.words ++ mem (bs.drop (i + 1))) := by
  have hi := (List.getElem?_eq_some_iff.mp h).1
  have e : bs = bs.take i ++ (k :: bs.drop (i + 1)) := by
    have := List.drop_eq_getElem_cons hi
    rw [(List.getElem?_eq_some_iff.mp h).2] at this
    rw [← this, List.take_append_drop]
  have := congrArg mem e
  rw [mem_app, mem_cons] at this
  exact this
theorem mem_at {bs : List Bk} {i r : Nat} {k : Bk} (h : bs[i]? = some k) (hr : r < k.sz) : (mem bs)[off bs i + r]? = k.words[r]? := by
  rw [mem_split h, List.getElem?_append_right (by rw [off_len]; omega), off_len, List.getElem?_append_left (by rw [words_len]; omega)]
  congr 1
  omega
theorem mem_end {bs : List Bk} {i : Nat} {k : Bk} (h : bs[i]? = some k) : off bs i + k.sz ≤ (mem bs).length := by
  rw [mem_split h, List.length_append, off_len, List.length_append, words_len]
  omega
theorem mem_cnt {bs : List Bk} {i : Nat} {k : Bk} (h : bs[i]? = some k) : (mem bs)[off bs i + 3]? = some (k.fs.length : Nat) := by
  rw [mem_at h (by unfold Bk.sz; omega)]
  rfl
theorem mem_field {bs : List Bk} {i r : Nat} {k : Bk} (h : bs[i]? = some k) (hr : r < k.fs.length) : (mem bs)[off bs i + 4 + r]? = k.fs[r]? := by
  rw [Nat.add_assoc, mem_at h (by unfold Bk.sz; omega)]
  unfold Bk.words
  rw [List.getElem?_append_right (by simp)]
  simp
theorem mem_mid {bs : List Bk} {i : Nat} {k : Bk} (h : bs[i]? = some k) : ((mem bs).drop (off bs i + 4)).take k.fs.length = k.fs := by
  rw [mem_split h]
  have e : mem (bs.take i) ++ (k.words ++ mem (bs.drop (i + 1))) = (mem (bs.take i) ++ [k.a, k.b, k.c, (k.fs.length : Nat)]) ++ (k.fs ++ mem (bs.drop (i + 1))) := by simp [Bk.words]
  rw [e, List.drop_append_of_le_length (by simp [off_len]), List.drop_of_length_le (by simp [off_len]), List.nil_append, List.take_append_of_le_length (Nat.le_refl _), List.take_length]
theorem mem_blk {bs : List Bk} {i : Nat} {k : Bk} (h : bs[i]? = some k) : ((mem bs).drop (off bs i)).take k.sz = k.words := by
  rw [mem_split h, List.drop_append_of_le_length (by rw [off_len]; omega), List.drop_of_length_le (by rw [off_len]; omega), List.nil_append, List.take_append_of_le_length (by rw [words_len]; omega), ← words_len, List.take_length]
theorem mem_le {bs : List Bk} (h : ∀ k ∈ bs, k.fs.length ≤ 3) : (mem bs).length ≤ 7 * bs.length := by
  induction bs with
  | nil => simp [mem]
  | cons k bs ih =>
    have := ih fun q hq => h q (by simp [hq])
    have := h k (by simp)
    rw [mem_cons, List.length_append, words_len, List.length_cons]
    unfold Bk.sz
    omega
theorem off_le (bs : List Bk) (i : Nat) : off bs i ≤ (mem bs).length := by
  rw [← off_len]
  have e : mem bs = mem (bs.take i) ++ mem (bs.drop i) := by rw [← mem_app, List.take_append_drop]
  rw [e, List.length_append]
  omega
theorem mul_ok {i j : Int} (hi : i.natAbs ≤ 10000) (hj : j.natAbs ≤ 10000) : mulOk i j := by
  have := Nat.log2_le_self i.natAbs
  have := Nat.log2_le_self j.natAbs
  unfold mulOk MUL
  omega
/-- a field is set -/
def setF (bs : List Bk) (i r : Nat) (y : Int) : List Bk := match bs[i]? with
  | some k => bs.set i { k with fs := k.fs.set r y }
  | none => bs
theorem setF_at {bs : List Bk} {i r : Nat} {y : Int} {k : Bk} (h : bs[i]? = some k) : setF bs i r y = bs.set i { k with fs := k.fs.set r y } := by
  unfold setF
  rw [h]
theorem setF_len {bs : List Bk} {i r : Nat} {y : Int} : (setF bs i r y).length = bs.length := by
  unfold setF
  split <;> simp
theorem mem_set {bs : List Bk} {i r : Nat} {k : Bk} {y : Int} (h : bs[i]? = some k) (hr : r < k.fs.length) : (mem bs).set (off bs i + 4 + r) y = mem (setF bs i r y) := by
  have hi := (List.getElem?_eq_some_iff.mp h).1
  rw [setF_at h]
  have h2 : (bs.set i { k with fs := k.fs.set r y })[i]? = some { k with fs := k.fs.set r y } := by rw [List.getElem?_set_self hi]
  rw [mem_split h, mem_split h2, List.set_append_right _ _ (by rw [off_len]; omega), off_len, List.take_set_of_le (Nat.le_refl _), List.drop_set_of_lt (by omega)]
  congr 1
  rw [List.set_append_left _ _ (by rw [words_len]; unfold Bk.sz; omega)]
  congr 1
  unfold Bk.words
  rw [List.set_append_right _ _ (by simp; omega)]
  simp
  congr 1
  omega
theorem setF_sz {bs : List Bk} {i r : Nat} {y : Int} : (setF bs i r y).map Bk.sz = bs.map Bk.sz := by
  unfold setF
  split
  · rename_i k h
    rw [List.map_set]
    have : Bk.sz { k with fs := k.fs.set r y } = k.sz := by simp [Bk.sz]
    rw [this]
    have hi := (List.getElem?_eq_some_iff.mp h).1
    have e2 := (List.getElem?_eq_some_iff.mp h).2
    apply List.ext_getElem?
    intro j
    by_cases c : i = j
    · subst c
      rw [List.getElem?_set_self (by simpa using hi), List.getElem?_map, h]
      rfl
    · rw [List.getElem?_set_ne c]
  · rfl
/-- the word of a block -/
def wd (bs : List Bk) (i : Nat) : Int := 4 * ((off bs i : Nat) : Int) + 1
theorem wd_mod (bs : List Bk) (i : Nat) : (wd bs i).fmod 4 = 1 := by unfold wd; rw [Int.fmod_eq_emod, if_pos (.inl (by omega))]; omega
theorem wd_div (bs : List Bk) (i : Nat) : (wd bs i).fdiv 4 = (off bs i : Nat) := by unfold wd; rw [Int.fdiv_eq_ediv, if_pos (.inl (by omega))]; omega
theorem wd_inj {bs : List Bk} {i j : Nat} (hi : i < bs.length) (hj : j < bs.length) (h : wd bs i = wd bs j) : i = j := off_inj hi hj (by unfold wd at h; omega)
/-- a word that names a block, or none -/
def Gd (bs : List Bk) (x : Int) : Prop := x.fmod 4 ≠ 1 ∨ ∃ i, i < bs.length ∧ x = wd bs i
def Wf (bs : List Bk) : Prop := ∀ k ∈ bs, k.fs.length ≤ 3 ∧ ∀ x ∈ k.fs, Gd bs x
/-! ### what is reached -/
inductive Rch (bs : List Bk) (roots : List Int) : Nat → Prop where
  | root {i : Nat} : i < bs.length → wd bs i ∈ roots → Rch bs roots i
  | step {i j : Nat} {k : Bk} : Rch bs roots i → bs[i]? = some k → j < bs.length → wd bs j ∈ k.fs → Rch bs roots j
theorem Rch.lt {bs : List Bk} {roots : List Int} {i : Nat} (h : Rch bs roots i) : i < bs.length := by cases h <;> assumption
def Full (bs : List Bk) (roots : List Int) (S : List Nat) : Prop := S.Nodup ∧ ∀ i, i ∈ S ↔ Rch bs roots i
def szA (bs : List Bk) (i : Nat) : Nat := ((bs[i]?).map Bk.sz).getD 0
def cst (bs : List Bk) (S : List Nat) : Nat := (S.map (szA bs)).sum
theorem Full.cst {bs : List Bk} {roots : List Int} {S S' : List Nat} (h : Full bs roots S) (h' : Full bs roots S') : cst bs S = cst bs S' := by
  have p : S.Perm S' := (List.perm_ext_iff_of_nodup h.1 h'.1).mpr fun i => (h.2 i).trans (h'.2 i).symm
  exact (p.map _).sum_nat
/-- the state of a walk: seen, and still to do -/
structure Dfs (bs : List Bk) (roots : List Int) (S : List Nat) (todo : List Int) : Prop where
  nd : S.Nodup
  rc : ∀ i ∈ S, Rch bs roots i
  gd : ∀ x ∈ todo, Gd bs x ∧ ∀ i, i < bs.length → x = wd bs i → Rch bs roots i
  ro : ∀ i, i < bs.length → wd bs i ∈ roots → i ∈ S ∨ wd bs i ∈ todo
  cl : ∀ i ∈ S, ∀ k, bs[i]? = some k → ∀ j, j < bs.length → wd bs j ∈ k.fs → j ∈ S ∨ wd bs j ∈ todo
theorem Dfs.start {bs : List Bk} {roots : List Int} (hr : ∀ x ∈ roots, Gd bs x) : Dfs bs roots [] roots := ⟨by simp, by simp, fun x hx => ⟨hr x hx, fun i hi e => .root hi (e ▸ hx)⟩, fun i hi h => .inr h, by simp⟩
theorem Dfs.done {bs : List Bk} {roots : List Int} {S : List Nat} (d : Dfs bs roots S []) : Full bs roots S := ⟨d.nd, fun i => ⟨d.rc i, fun h => by
  induction h with
  | root hi h => exact (d.ro _ hi h).resolve_right (by simp)
  | step _ hk hj h ih => exact (d.cl _ ih _ hk _ hj h).resolve_right (by simp)⟩⟩
/-- a word that is no block, or seen -/
theorem Dfs.skip {bs : List Bk} {roots : List Int} {S : List Nat} {ys : List Int} {x : Int} (d : Dfs bs roots S (ys ++ [x])) (h : ∀ i, i < bs.length → x = wd bs i → i ∈ S) : Dfs bs roots S ys := ⟨d.nd, d.rc, fun y hy => d.gd y (by simp [hy]), fun i hi hr => by
  rcases d.ro i hi hr with z | z
  · exact .inl z
  · rcases List.mem_append.mp z with z | z
    · exact .inr z
    · exact .inl (h i hi (List.mem_singleton.mp z).symm), fun i hi k hk j hj hr => by
  rcases d.cl i hi k hk j hj hr with z | z
  · exact .inl z
  · rcases List.mem_append.mp z with z | z
    · exact .inr z
    · exact .inl (h j hj (List.mem_singleton.mp z).symm)⟩
theorem Dfs.new {bs : List Bk} {roots : List Int} {S : List Nat} {ys : List Int} {i : Nat} {k : Bk} (w : Wf bs) (d : Dfs bs roots S (ys ++ [wd bs i])) (hk : bs[i]? = some k) (hi : i ∉ S) : Dfs bs roots (S ++ [i]) (ys ++ k.fs) := by
  have hl := (List.getElem?_eq_some_iff.mp hk).1
  have ri : Rch bs roots i := (d.gd (wd bs i) (by simp)).2 i hl rfl
  refine ⟨?_, fun j hj => ?_, fun x hx => ?_, fun j hj hr => ?_, fun j hj q hq m hm hr => ?_⟩
  · rw [List.nodup_append]
    exact ⟨d.nd, by simp, fun a ha b hb => by rw [List.mem_singleton.mp hb]; rintro rfl; exact hi ha⟩
  · rcases List.mem_append.mp hj with z | z
    · exact d.rc j z
    · rw [List.mem_singleton.mp z]; exact ri
  · rcases List.mem_append.mp hx with z | z
    · exact d.gd x (by simp [z])
    · exact ⟨(w k (List.mem_of_getElem? hk)).2 x z, fun j hj e => .step ri hk hj (e ▸ z)⟩
  · rcases d.ro j hj hr with z | z
    · exact .inl (by simp [z])
    · rcases List.mem_append.mp z with z | z
      · exact .inr (by simp [z])
      · exact .inl (by rw [wd_inj hj hl (List.mem_singleton.mp z)]; simp)
  · rcases List.mem_append.mp hj with z | z
    · rcases d.cl j z q hq m hm hr with z | z
      · exact .inl (by simp [z])
      · rcases List.mem_append.mp z with z | z
        · exact .inr (by simp [z])
        · exact .inl (by rw [wd_inj hm hl (List.mem_singleton.mp z)]; simp)
    · rw [List.mem_singleton.mp z, hk] at hq
      cases hq
      exact .inr (by simp [hr])
theorem gd_sz {bs cs : List Bk} (h : bs.map Bk.sz = cs.map Bk.sz) {x : Int} (g : Gd bs x) : Gd cs x := by
  rcases g with g | ⟨i, hi, e⟩
  · exact .inl g
  · refine .inr ⟨i, ?_, ?_⟩
    · have := congrArg List.length h
      simp at this
      omega
    · rw [e, wd, wd, off_sz h]
theorem nodup_lt : ∀ {n : Nat} {l : List Nat}, l.Nodup → (∀ x ∈ l, x < n) → l.length ≤ n
  | 0, l, _, h => by
    cases l with
    | nil => simp
    | cons x l => have := h x (by simp); omega
  | n + 1, l, hn, h => by
    by_cases c : n ∈ l
    · have := nodup_lt (n := n) (hn.erase n) fun x hx => by
        have := h x (List.mem_of_mem_erase hx)
        have := (hn.mem_erase_iff.mp hx).1
        omega
      rw [List.length_erase_of_mem c] at this
      omega
    · have := nodup_lt (n := n) hn fun x hx => by
        have := h x hx
        have : x ≠ n := fun e => c (e ▸ hx)
        omega
      omega
/-! ### lists of ints on the heap -/
def L (xs : List Int) : Ob := .lst (xs.map D.int)
theorem cut_mid {γ : Type} {xs : List γ} {a c : Nat} (h : a + c ≤ xs.length) : cut xs (some (a : Nat)) (some ((a : Nat) + (c : Nat) : Int)) = (xs.drop a).take c := by
  have e1 : sIdx xs.length 0 (some (a : Nat)) = a := by
    simp only [sIdx]
    rw [if_neg (by omega)]
    omega
  have e2 : sIdx xs.length xs.length (some ((a : Nat) + (c : Nat) : Int)) = a + c := by
    simp only [sIdx]
    rw [if_neg (by omega)]
    omega
  simp only [cut, e1, e2]
  congr 1
  omega
theorem cut_int {xs ys : List Int} {a c : Nat} (h : a + c ≤ xs.length) (e : (xs.drop a).take c = ys) {i j : Int} (hi : i = (a : Nat)) (hj : j = (a : Nat) + (c : Nat)) : cut (xs.map D.int) (some i) (some j) = ys.map D.int := by
  subst hi hj
  rw [cut_mid (by simpa using h), ← List.map_drop, ← List.map_take, e]
theorem scalI (is : List Int) : (is.map D.int).all D.scal = true := by
  induction is with
  | nil => rfl
  | cons i is ih => rw [List.map_cons, List.all_cons, ih]; rfl
theorem anyI {x : Int} : ∀ {is : List Int}, anyEq (.int x) (is.map .int) = decide (x ∈ is)
  | [] => by simp [anyEq]
  | i :: is => by
    rw [List.map_cons, anyEq, anyI]
    simp only [D.eqv, List.mem_cons]
    rw [Bool.eq_iff_iff]
    simp
    constructor
    · rintro (h | h)
      · exact .inl h.symm
      · exact .inr h
    · rintro (h | h)
      · exact .inl h.symm
      · exact .inr h
theorem ninL {h : Hh} {x : Int} {is : List Int} {N : Nat} {Q : D → Hh → Prop} (e : h[N]? = some (L is)) (q : Q (.bl (!decide (x ∈ is))) h) : Sat (cNin (.int x) (.ref N) h) Q := by
  have : inItems (.int x) (is.map .int) = some (decide (x ∈ is)) := by
    unfold inItems
    rw [scalI is, anyI]
    rfl
  have e : h[N]? = some (.lst (is.map .int)) := e
  simp only [cNin, inR, listOf, lstAt, e, this]
  exact .ok q
theorem fitI (is : List Int) : D.fitL (is.map .int) = true := by
  have h : D.flatL (is.map .int) = true ∧ D.deepL (is.map .int) = 0 := by
    induction is with
    | nil => exact ⟨rfl, rfl⟩
    | cons i is ih =>
      rw [List.map_cons, D.flatL, D.deepL, ih.1, ih.2]
      exact ⟨rfl, rfl⟩
  rw [D.fitL, h.1, decide_eq_true (by omega)]
  rfl
theorem eqvI : ∀ is : List Int, D.eqvL (is.map D.int) (is.map D.int) = true
  | [] => rfl
  | i :: is => by rw [List.map_cons, D.eqvL, eqvI is]; simp [D.eqv]
theorem neI2 {h : Hh} {is : List Int} {M N : Nat} {Q : D → Hh → Prop} (e1 : h[M]? = some (L is)) (e2 : h[N]? = some (L is)) (q : Q (.bl false) h) : Sat (cNe (.ref M) (.ref N) h) Q := by
  have e1 : h[M]? = some (.lst (is.map .int)) := e1
  have e2 : h[N]? = some (.lst (is.map .int)) := e2
  have e : eqR h (.ref M) (.ref N) = some true := by
    have e0 : D.scal2 (.ref M) (.ref N) = false := rfl
    simp only [eqR, e0, listOf, lstAt, e1, e2, fitI, eqvI]
    rfl
  simp only [cNe, e]
  exact .ok q
theorem L_snoc (xs : List Int) (x : Int) : Ob.lst (xs.map D.int ++ [.int x]) = L (xs ++ [x]) := by simp [L]
theorem L_app (xs ys : List Int) : Ob.lst (xs.map D.int ++ ys.map .int) = L (xs ++ ys) := by simp [L]
theorem L_set (xs : List Int) (i : Nat) (y : Int) : Ob.lst ((xs.map D.int).set i (.int y)) = L (xs.set i y) := by rw [L, List.map_set]
/-! ### dicts -/
section
variable {e : En} {h : Hh} {Q : D → Hh → Prop} {QF : Fl → Hh → Prop} {a b : Den}
def dkK (h : Hh) (x y : D) (P : Nat → List (Ky × D) → Ky → Prop) : Prop := ∃ n kvs k, x = .ref n ∧ keyOf y = some k ∧ h[n]? = some (.dk kvs) ∧ P n kvs k
theorem dkK.mk {y : D} {n : Nat} {kvs : List (Ky × D)} {k : Ky} {P : Nat → List (Ky × D) → Ky → Prop} (e : h[n]? = some (.dk kvs)) (q : P n kvs k) (ey : keyOf y = some k := by rfl) : dkK h (.ref n) y P := ⟨n, kvs, k, rfl, ey, e, q⟩
theorem dk_get {x y : D} {n : Nat} {kvs : List (Ky × D)} {k : Ky} (ex : x = .ref n) (ey : keyOf y = some k) (e : h[n]? = some (.dk kvs)) : dkGet h x y = some (valK kvs k) := by
  subst ex
  simp only [dkGet, ey, dkAt, e]
theorem Sat.dnin (s : Sat (a e h) fun y h1 => Sat (b e h1) fun x h2 => dkK h2 x y fun _ kvs k => Q (.bl (!(valK kvs k).isSome)) h2) : Sat (dDNin a b e h) Q := .bind (s.mono fun y h1 s => .bind (s.mono fun x h2 ⟨n, kvs, k, ex, ey, e, q⟩ => by
  rw [dk_get ex ey e]
  exact .ok q))
instance : Red (Sat (dDNin a b e h) Q) (Sat (a e h) fun y h1 => Sat (b e h1) fun x h2 => dkK h2 x y fun _ kvs k => Q (.bl (!(valK kvs k).isSome)) h2) := ⟨Sat.dnin⟩
theorem Sat.dget (s : Sat (a e h) fun x h1 => Sat (b e h1) fun y h2 => dkK h2 x y fun _ kvs k => ∃ d, valK kvs k = some d ∧ Q d h2) : Sat (dDGet a b e h) Q := .bind (s.mono fun x h1 s => .bind (s.mono fun y h2 ⟨n, kvs, k, ex, ey, e, d, ed, q⟩ => by
  rw [dk_get ex ey e, ed]
  exact .ok q))
instance : Red (Sat (dDGet a b e h) Q) (Sat (a e h) fun x h1 => Sat (b e h1) fun y h2 => dkK h2 x y fun _ kvs k => ∃ d, valK kvs k = some d ∧ Q d h2) := ⟨Sat.dget⟩
theorem Sat.newk (q : Q (.ref h.length) (h ++ [.dk []])) : Sat (dNewK e h) Q := .ok q
instance : Red (Sat (dNewK e h) Q) (Q (.ref h.length) (h ++ [.dk []])) := ⟨Sat.newk⟩
theorem Sat.dset {o i : Den} (s : Sat (a e h) fun v h1 => Sat (o e h1) fun x h2 => Sat (i e h2) fun y h3 => dkK h3 x y fun n kvs k => kvs.length < SL ∧ QF (.nx e) (h3.set n (.dk (setK kvs k v)))) : Sat (sDSet o i a e h) QF := .sb (s.mono fun v h1 s => .sb (s.mono fun x h2 s => .sb (s.mono fun y h3 ⟨n, kvs, k, ex, ey, e, c, q⟩ => by
  refine .sb ?_
  subst ex
  simp only [dkPut, ey, dkAt, e, if_pos c]
  exact .ok (.ok q))))
instance {o i : Den} : Red (Sat (sDSet o i a e h) QF) (Sat (a e h) fun v h1 => Sat (o e h1) fun x h2 => Sat (i e h2) fun y h3 => dkK h3 x y fun n kvs k => kvs.length < SL ∧ QF (.nx e) (h3.set n (.dk (setK kvs k v)))) := ⟨Sat.dset⟩
end
end PI.GC
/-! ## PiDc -/
set_option Elab.async false
set_option linter.all false
set_option maxRecDepth 100000
set_option maxHeartbeats 4000000
set_option autoImplicit false
/-! PI: {k: v for g in items if t}: denotation, soundness, Sat rule. -/
namespace PI
open PySem L2
/-- the turns of {ka: va for g in items if t} -/
def dcGo (w : Wk) (vs : List Nat) (g : GDen) (t : TDen) (ka va : Den) (e : En) : List D → List (Ky × D) → Hh → Res (List (Ky × D))
  | [], acc, h => if w.still h then .ok acc h else .bad
  | d :: ds, acc, h => if w.still h then (g d (forget e vs) h).bn fun e1 h1 => (t e1 h1).bn fun b h2 =>
      if b = true then (ka e1 h2).bn fun x h3 => (va e1 h3).bn fun y h4 => match keyOf x with
        | some k => if acc.length < SL then dcGo w vs g t ka va e ds (setK acc k y) h4 else .bad
        | none => .bad
      else dcGo w vs g t ka va e ds acc h2
    else .bad
def dDc (w : WDen) (vs : List Nat) (g : GDen) (t : TDen) (ka va : Den) : Den := fun e h => (w e h).bind fun k h1 => (dcGo k vs g t ka va e k.items [] h1).bind fun kvs h2 => .ok (.ref h2.length) (h2 ++ [.dk kvs])
theorem dcGo_noexc {w : Wk} {vs : List Nat} {g : GDen} {t : TDen} {ka va : Den} {e : En} : ∀ (ds : List D) (acc : List (Ky × D)) (h : Hh) (c : Nat) (fs : List (List Nat × D)) (h' : Hh), dcGo w vs g t ka va e ds acc h ≠ .exc c fs h'
  | [], acc, h, c, fs, h' => by
    unfold dcGo
    split <;> exact fun q => nomatch q
  | d :: ds, acc, h, c, fs, h' => by
    unfold dcGo
    split
    · cases g d (PI.forget e vs) h with
      | ok e1 h1 =>
        simp only [bn_ok]
        cases t e1 h1 with
        | ok b h2 =>
          simp only [bn_ok]
          split
          · cases ka e1 h2 with
            | ok x h3 =>
              simp only [bn_ok]
              cases va e1 h3 with
              | ok y h4 =>
                simp only [bn_ok]
                split
                · split
                  · exact dcGo_noexc ds _ h4 c fs h'
                  · exact fun q => nomatch q
                · exact fun q => nomatch q
              | _ => exact fun q => nomatch q
            | _ => exact fun q => nomatch q
          · exact dcGo_noexc ds _ h2 c fs h'
        | _ => exact fun q => nomatch q
      | _ => exact fun q => nomatch q
    · exact fun q => nomatch q
section
variable {X : Cx} {G : Gx} {W : WX} {pos : Pos} {tg iter kx vx : Expr} {ifs : List Expr} {scope : Scope} {own : List (Str × Nat)} {w : WDen} {g : GDen} {t : TDen} {ka va : Den} {tgr : TG}
theorem dc_gen {vs : List Nat} (gv : tGv G vs g tgr) {ρ : List Addr} {h : Hh} {H : Hp} {σ : L2.St} {e : En} {Q : VK} {F : List Addr → Hh → Hp → List (Ky × D) → Prop} (hr : HR G ρ h H) (er : ER G ρ H σ e)
    (p : PostG G ρ H F (fun c d H' => W c d σ H') ((w e h).bind fun k h1 => dcGo k vs g t ka va e k.items [] h1))
    (fin : ∀ ρ' h' H' D ks acc, Le G ρ H ρ' H' → HR G ρ' h' H' → D ∉ ρ' → H D = none → H' D = some (.dK ks) → RK kyV G ρ' H' ks acc → F ρ' h' H' acc → Q (.ref D) H') :
    tDc (tW G W w) tgr (tB' G W0 t) (tI G W0 ka) (tI G W0 va) vs σ H Q := by
  have p' : PostG G ρ H (fun ρ' h' H' k => PostG G ρ' H' F (fun c d H' => W c d σ H') (dcGo k vs g t ka va e k.items [] h')) (fun c d H' => W c d σ H') (w e h) := by
    cases q : w e h with
    | bad => rw [q] at p; exact p
    | ok k h1 => rw [q] at p; exact fun ρ' H' l _ => PostG.le l p
    | exc c fs h1 => rw [q] at p; exact p
  refine tW.intro hr er p' fun ρ1 h1 H1 k J l1 hr1 it p1 pa hD => ?_
  have h0 := l1.free hD
  refine ⟨fun i m H => ∃ ρ h acc ks, Le G ρ1 H1 ρ H ∧ HR G ρ h H ∧ pa ∉ ρ ∧ H pa = some (.dK ks) ∧ RK kyV G ρ H ks acc ∧ i ≤ k.items.length ∧ m = k.items.length - i ∧
      PostG G ρ1 H1 F (fun c d H' => W c d σ H') (dcGo k vs g t ka va e (k.items.drop i) acc h),
    ⟨_, ρ1, h1, [], [], Le.new hD, hr1.beside hD, hr1.notin hD, upd_same, .nil, Nat.zero_le _, rfl, by simpa using p1⟩, fun i m H2 hw => ?_⟩
  obtain ⟨ρ2, h2, acc, ks, l2, hr2, nD, eD, rD, hi, rfl, p2⟩ := hw
  by_cases hlt : i < k.items.length
  · rw [List.drop_eq_getElem_cons hlt] at p2
    simp only [dcGo] at p2
    split at p2
    · rename_i st
      have ok := it ρ2 h2 H2 l2 hr2 st i
      obtain ⟨go, yl⟩ := ok.1 _ (List.getElem?_eq_getElem hlt)
      refine .inr ⟨go, fun H => ∃ ρ h acc ks, Le G ρ1 H1 ρ H ∧ HR G ρ h H ∧ pa ∉ ρ ∧ H pa = some (.dK ks) ∧ RK kyV G ρ H ks acc ∧ PostG G ρ1 H1 F (fun c d H' => W c d σ H') (dcGo k vs g t ka va e (k.items.drop (i + 1)) acc h),
        fun H' hN => ?_, fun x H3 hy => ?_⟩
      · obtain ⟨ρ3, h3, ac, va, a1, a2, a3, a4, a5, a6⟩ := hN
        exact ⟨k.items.length - (i + 1), by omega, ρ3, h3, ac, va, a1, a2, a3, a4, a5, hlt, rfl, a6⟩
      · obtain ⟨ρ3, l3, hr3, rd⟩ := yl x H3 hy
        obtain ⟨nD3, eD3⟩ := l3.aside eD nD
        have lA := l2.trans l3
        have er3 := (er.mono l1).mono lA
        cases qg : g k.items[i] (PI.forget e vs) h2 with
        | bad => rw [qg] at p2; exact p2.elim
        | exc c fs h4 => rw [qg] at p2; exact p2.elim
        | ok e4 h4 =>
          rw [qg] at p2
          simp only [bn_ok] at p2
          refine gv x σ H3 _ ρ3 h2 e e4 _ h4 hr3 (er3.forget vs) rd qg fun σ2 hr4 er4 ws => ⟨ws, ?_⟩
          refine ⟨ρ3, h4, e4, hr4, er4, ?_⟩
          cases qt : t e4 h4 with
          | bad => rw [qt] at p2; exact p2.elim
          | exc c fs h5 => rw [qt] at p2; exact p2.elim
          | ok b h5 =>
            rw [qt] at p2
            simp only [bn_ok] at p2
            intro ρ5 H5 l5 hr5
            obtain ⟨nD5, eD5⟩ := l5.aside eD3 nD3
            have rD5 := (rD.mono l3).mono l5
            cases b with
            | false =>
              rw [if_neg Bool.false_ne_true] at p2
              exact iteF ⟨ρ5, h5, acc, ks, lA.trans l5, hr5, nD5, eD5, rD5, p2⟩
            | true =>
              rw [if_pos rfl] at p2
              refine iteT ⟨ρ5, h5, e4, hr5, er4.mono l5, ?_⟩
              cases qe : ka e4 h5 with
              | bad => rw [qe] at p2; exact p2.elim
              | exc c fs h6 => rw [qe] at p2; exact p2.elim
              | ok y h6 =>
                rw [qe] at p2
                simp only [bn_ok] at p2
                intro ρ6 v6 H6 l6 hr6 r6
                obtain ⟨nD6, eD6⟩ := l6.aside eD5 nD5
                refine ⟨ρ6, h6, e4, hr6, (er4.mono l5).mono l6, ?_⟩
                cases qv : va e4 h6 with
                | bad => rw [qv] at p2; exact p2.elim
                | exc c fs h7 => rw [qv] at p2; exact p2.elim
                | ok z h7 =>
                  rw [qv] at p2
                  simp only [bn_ok] at p2
                  intro ρ7 v7 H7 l7 hr7 r7
                  obtain ⟨nD7, eD7⟩ := l7.aside eD6 nD6
                  split at p2
                  · rename_i ky qk
                    split at p2
                    · rename_i c
                      have ek := key_ok (r6.mono l7) qk
                      have rD7 := (rD5.mono l6).mono l7
                      rw [SLe, ← rD7.length] at c
                      have ll := (((lA.trans l5).trans l6).trans l7).beside (ho := .dK (putK ks (kyV ky) v7)) hD eD7 rfl
                      have m2 : ∀ {ks : List (Key × V)} {kvs : List (Ky × D)}, RK kyV G ρ7 H7 ks kvs → RK kyV G ρ7 (upd H7 pa (.dK (putK (ks) (kyV ky) v7))) ks kvs := fun r => RK.mapD (fun r => RD.mono2 (fun _ _ h => sqt_set eD7 rfl h) (fun _ _ h => sqr_set eD7 rfl h) r) r
                      refine ⟨ks, kyV ky, ek, eD7, c, ρ7, h7, setK acc ky z, putK ks (kyV ky) v7, ll, hr7.beside2 nD7 eD7 rfl, nD7, upd_same, ?_, p2⟩
                      exact RK.mapD (fun r => RD.mono2 (fun _ _ h => sqt_set eD7 rfl h) (fun _ _ h => sqr_set eD7 rfl h) r) (RK.put r7 ky rD7)
                    · exact p2.elim
                  · exact p2.elim
    · exact p2.elim
  · have hn : i = k.items.length := by omega
    subst hn
    rw [List.drop_length] at p2
    simp only [dcGo] at p2
    split at p2
    · rename_i st
      exact .inl ⟨(it ρ2 h2 H2 l2 hr2 st _).2 (Nat.le_refl _), fin ρ2 h2 H2 pa ks acc (l1.trans l2) hr2 nD h0 eD rD (p2 ρ2 H2 l2 hr2)⟩
    · exact p2.elim
theorem adoptK {ρ0 ρ : List Addr} {H0 H : Hp} {h : Hh} {pa : Addr} {ks : List (Key × V)} {ds : List (Ky × D)} (l : Le G ρ0 H0 ρ H) (hr : HR G ρ h H) (nD : pa ∉ ρ) (h0 : H0 pa = none) (eD : H pa = some (.dK ks)) (r : RK kyV G ρ H ks ds) :
    Le G ρ0 H0 (ρ ++ [pa]) H ∧ HR G (ρ ++ [pa]) (h ++ [.dk ds]) H := by
  obtain ⟨t, rfl, ht⟩ := l.pre
  have up : ∀ {v : V} {d : D}, RD G (ρ0 ++ t) H v d → RD G (ρ0 ++ t ++ [pa]) H v d := fun r => RD.grow _ r
  have ups : ∀ {v : List V} {d : List D}, RDs G (ρ0 ++ t) H v d → RDs G (ρ0 ++ t ++ [pa]) H v d := fun r => RDs.grow _ r
  refine ⟨⟨⟨t ++ [pa], by simp, fun b hb => ?_⟩, l.tup, l.rol, l.keep, l.stay⟩, ⟨by
    have q := hr.len
    rw [List.length_append] at q
    rw [List.length_append, List.length_append, List.length_append, q] <;> rfl, ?_, fun i a u e1 e2 => ?_⟩⟩
  · rcases List.mem_append.mp hb with hb | hb
    · exact ht b hb
    · rw [List.mem_singleton.mp hb]
      exact h0
  · rw [List.nodup_append]
    refine ⟨hr.nd, by simp, fun b hb c hc => ?_⟩
    rw [List.mem_singleton.mp hc]
    exact fun z => nD (z ▸ hb)
  · by_cases hi : i < h.length
    · rw [List.getElem?_append_left (by rw [hr.len]; exact hi)] at e1
      rw [List.getElem?_append_left hi] at e2
      have q := hr.ok i a u e1 e2
      cases u with
      | lst ds => obtain ⟨vs, e, r⟩ := q; exact ⟨vs, e, ups r⟩
      | dk kvs => obtain ⟨vs, e, r⟩ := q; exact ⟨vs, e, r.mapD up⟩
      | dt kvs => obtain ⟨vs, e, r⟩ := q; exact ⟨vs, e, r.mapD up⟩
      | ins c fs => exact q.elim
    · rw [List.getElem?_append_right (by rw [hr.len]; omega)] at e1
      rw [List.getElem?_append_right (by omega)] at e2
      have h0 : i - h.length = 0 := by
        have q := (List.getElem?_eq_some_iff.mp e2).1
        simp at q
        omega
      rw [hr.len, h0] at e1
      rw [h0] at e2
      have ea : pa = a := by simpa using e1
      have eu : Ob.dk ds = u := by simpa using e2
      subst ea eu
      exact ⟨ks, eD, r.mapD up⟩
theorem ie_dc (hc : X.calm = true) (hN : X.N.Nodup) (C : CompOk X G W tg iter vx ifs scope own w g t va)
    (hk : ∀ (s : Shared) (H : Hp) (C : Addr) (cl : List (Str × Addr)) (fp : List Addr), PE (X.blk s H scope (compEnvC scope cl C X.env) fp) kx (tI G W0 ka)) :
    PE X (.DictComp kx vx [⟨tg, iter, ifs, 0⟩] scope pos) (tI G W (dDc w (own.map (·.2)) g t ka va)) := by
  obtain ⟨⟨tgr, gv, hg⟩, hi, ok, ht, he, hs⟩ := C
  refine pe_imp (pe_dc hc hN hi ok hg ht hk he hs) fun σ H Q ⟨ρ, h, e, hr, er, p⟩ => ?_
  have p' : PostG G ρ H (fun _ h' _ a => Post G ρ H Q (fun c d H' => W c d σ H') (.ok (.ref h'.length) (h' ++ [.dk a]))) (fun c d H' => W c d σ H') ((w e h).bind fun k h1 => dcGo k (own.map (·.2)) g t ka va e k.items [] h1) := by
    unfold dDc at p
    cases q : w e h with
    | bad => rw [q] at p; exact p
    | ok k h1 => rw [q] at p; exact Post.bindG p
    | exc c fs h1 => rw [q] at p; exact p
  refine dc_gen gv hr er p' fun ρ1 h1 H1 pa ks acc l1 hr1 nD h0 eD rD p1 => ?_
  obtain ⟨l2, hr2⟩ := adoptK l1 hr1 nD h0 eD rD
  exact p1 _ _ _ l2 hr2 (.ref (by rw [← hr1.len]; simp))
/-- y = {..} on one line -/
theorem ps_setDc {i : Nat} {y : Str} {py spos : Pos} {wi : TI} {gg : TG} {tt : TT} {tk tv : TE} (hc : X.calm = true) (hN : X.N.Nodup) (hy : X.N[i]? = some y) (hyl : X.env.scope.names.lookup y = some .local)
    (hsw : swapsWith (.DictComp kx vx [⟨tg, iter, ifs, 0⟩] scope pos) (some (.Name y py)) spos.line X.env = pure true) (hi : PI X tg iter wi) (ok : BlkOk X.N X.env.scope scope own)
    (hg : ∀ (s : Shared) (H : Hp) (C : Addr) (cl : List (Str × Addr)) (fp : List Addr), PG (X.blk s H scope (compEnvC scope cl C X.env) fp) tg gg) (ht : ∀ (s : Shared) (H : Hp) (C : Addr) (cl : List (Str × Addr)) (fp : List Addr), PTs (X.blk s H scope (compEnvC scope cl C X.env) fp) ifs tt)
    (hk : ∀ (s : Shared) (H : Hp) (C : Addr) (cl : List (Str × Addr)) (fp : List Addr), PE (X.blk s H scope (compEnvC scope cl C X.env) fp) kx tk)
    (he : ∀ (s : Shared) (H : Hp) (C : Addr) (cl : List (Str × Addr)) (fp : List Addr), PE (X.blk s H scope (compEnvC scope cl C X.env) fp) vx tv) (hs : ∀ x, foldedSetIterable iter X.env x = pure x) :
    PS X (.Assign [.Name y py] (.DictComp kx vx [⟨tg, iter, ifs, 0⟩] scope pos) spos) (tAsg (tDc wi gg tt tk tv (own.map (·.2))) (gName i)) := by
  refine ⟨fun pins s σ H D I h => ?_⟩
  rw [PySem.exec_Assign_Name_used _ _ _ _ hsw]
  refine wpAny_bind (wpAny_standAt (wpAny_bind ?_))
  show wpAny _ X.A (do let _ ← comprehension (.DictComp kx vx [⟨tg, iter, ifs, 0⟩] scope pos) scope X.env (firstIterPos [⟨tg, iter, ifs, 0⟩] pos) newDict false (eval iter X.env) (some (assign (.Name y py) X.env))) _ _ s
  have h : tDc wi gg tt tk tv (own.map (·.2)) σ H (fun x H1 => gName i x σ H1 D.nx) := h
  refine wpAny_bind (thn (dc_core (Qf := fun _ s' => SP X pins D .next s') hc hN I hi ok hg ht hk he hs h fun L C s' m H' I' q hn f => ?_) fun _ s' hq => wpAny_pure (wpAny_pure hq))
  show wpAny _ _ (assign (.Name y py) X.env (.ref L)) _ _ _
  refine wpAny_assign_Name (store_ok2 (v := V.ref L) I' hN hy (.inl hyl) rfl (fun s2 I2 ⟨a, sb, ha⟩ => ?_) (.inr hyl))
  obtain ⟨f0, f1, f2, f3, f4, f5⟩ := f
  have haC : C ≠ a := by
    rcases ha with z | z
    · rw [z]; exact f1
    · exact fun e => f4 y a z e.symm
  refine ⟨m, hn.sameBut sb haC, fun h3 sb3 => ?_⟩
  exact ⟨_, H', I2.turned (t' := s2.toks) (fun b o hb e => (sb3.2 b hb).trans e) f0 f1 f3 f4 f5, q⟩
theorem sw_trueD {gs : List Comprehension} {py : Pos} {y : Str} {l : Nat} {env : Env} (hk : env.scope.kind = .function) (hy : env.scope.names.lookup y = some .local) (hl : (py.line == pos.line) = true)
    (ha : (scope.names.any fun (n, k) => n == y && (k == .local || k == .cell)) = false) : swapsWith (.DictComp kx vx gs scope pos) (some (.Name y py)) l env = pure true := by
  have ky : env.kindOf y = some .local := hy
  have hb : env.blockKind = .function := by unfold Env.blockKind; rw [hk]; rfl
  unfold swapsWith
  simp only [hb, ky, ha, Expr.pos, hl]
  rfl
theorem is_setDc (i : Nat) {y : Str} {py spos : Pos} (hc : X.calm = true) (hN : X.N.Nodup) (C : CompOk X G W tg iter vx ifs scope own w g t va)
    (hk : ∀ (s : Shared) (H : Hp) (C : Addr) (cl : List (Str × Addr)) (fp : List Addr), PE (X.blk s H scope (compEnvC scope cl C X.env) fp) kx (tI G W0 ka))
    (hy : X.N[i]? = some y := by rfl) (hyl : X.env.scope.names.lookup y = some .local := by rfl)
    (hsw : swapsWith (.DictComp kx vx [⟨tg, iter, ifs, 0⟩] scope pos) (some (.Name y py)) spos.line X.env = pure true := by exact sw_trueD rfl rfl rfl (by decide +kernel)) :
    PS X (.Assign [.Name y py] (.DictComp kx vx [⟨tg, iter, ifs, 0⟩] scope pos) spos) (tS G W (sAsg (dDc w (own.map (·.2)) g t ka va) (gNm i))) := by
  obtain ⟨⟨tgr, gv, hg⟩, hi, ok, ht, he, hs⟩ := C
  refine ps_imp (ps_setDc hc hN hy hyl hsw hi ok hg ht hk he hs) fun D σ H ⟨ρ, h, e, hr, er, p⟩ => ?_
  have p' : PostG G ρ H (fun ρ' h' H' a => ∀ ρ2 H2, Le G ρ H ρ2 H2 → HR G ρ2 (h' ++ [.dk a]) H2 → ∀ σ', ER G ρ2 H2 σ' (e.set i (some (.ref h'.length))) → D.nx σ' H2) (fun c d H' => W c d σ H') ((w e h).bind fun k h1 => dcGo k (own.map (·.2)) g t ka va e k.items [] h1) := by
    have p := PostS.sb er p
    unfold dDc at p
    cases q : w e h with
    | bad => rw [q] at p; exact p
    | exc c fs h1 => rw [q] at p; exact p
    | ok k h1 =>
      rw [q] at p
      simp only [Res.bind] at p ⊢
      cases q2 : dcGo k (own.map (·.2)) g t ka va e k.items [] h1 with
      | bad => rw [q2] at p; exact p
      | exc c fs h2 => exact absurd q2 (dcGo_noexc _ _ _ _ _ _)
      | ok a h2 =>
        rw [q2] at p
        exact fun ρ' H' l hr' ρ2 H2 l2 hr2 σ' er' => p ρ2 H2 l2 hr2 ρ2 H2 Le.refl hr2 σ' er'
  refine dc_gen gv hr er p' fun ρ1 h1 H1 pa ks acc l1 hr1 nD h0 eD rD p1 => ?_
  obtain ⟨l2, hr2⟩ := adoptK l1 hr1 nD h0 eD rD
  refine p1 _ _ l2 hr2 _ ((er.mono l2).set (.ref ?_))
  rw [← hr1.len]
  simp
end
/-! ### the step -/
section
variable {e : En} {h : Hh} {t : TDen} {ka va : Den}
theorem Sat.dc {w : WDen} {vs : List Nat} {g : GDen} {Q : D → Hh → Prop} (s : Sat (w e h) fun k h1 => Sat (dcGo k vs g t ka va e k.items [] h1) fun kvs h2 => Q (.ref h2.length) (h2 ++ [.dk kvs])) : Sat (dDc w vs g t ka va e h) Q :=
  .bind (s.mono fun _ _ q => .bind (q.mono fun _ _ q => .ok q))
instance {w : WDen} {vs : List Nat} {g : GDen} {Q : D → Hh → Prop} : Red (Sat (dDc w vs g t ka va e h) Q) (Sat (w e h) fun k h1 => Sat (dcGo k vs g t ka va e k.items [] h1) fun kvs h2 => Q (.ref h2.length) (h2 ++ [.dk kvs])) := ⟨Sat.dc⟩
theorem Sat.dcGo {k : Wk} {vs : List Nat} {g : GDen} {Q : List (Ky × D) → Hh → Prop} : ∀ {its : List D} {acc : List (Ky × D)} {h : Hh} (P : Nat → List (Ky × D) → Hh → Prop) (h0 : P 0 acc h) (still : ∀ i acc h, P i acc h → k.still h = true)
    (step : ∀ i d acc h, its[i]? = some d → P i acc h → Sat (g d (forget e vs) h) fun e1 h1 => Sat (t e1 h1) fun b h2 => ifK b (Sat (ka e1 h2) fun x h3 => Sat (va e1 h3) fun y h4 => ∃ q, keyOf x = some q ∧ acc.length < SL ∧ P (i + 1) (setK acc q y) h4) (P (i + 1) acc h2))
    (fin : ∀ acc h, P its.length acc h → Q acc h), Sat (PI.dcGo k vs g t ka va e its acc h) Q
  | [], acc, h, P, h0, still, step, fin => by
    unfold PI.dcGo
    rw [if_pos (still _ _ _ h0)]
    exact .ok (fin _ _ h0)
  | d :: ds, acc, h, P, h0, still, step, fin => by
    unfold PI.dcGo
    rw [if_pos (still _ _ _ h0)]
    refine .bn ((step 0 d acc h rfl h0).mono fun e1 h1 s1 => .bn (s1.mono fun b h2 s2 => ?_))
    have go1 : ∀ {acc' : List (Ky × D)} {h' : Hh}, P 1 acc' h' → Sat (PI.dcGo k vs g t ka va e ds acc' h') Q := fun {acc' h'} p =>
      Sat.dcGo (fun i => P (i + 1)) p (fun i => still (i + 1)) (fun i d acc h e p => step (i + 1) d acc h e p) fun acc h p => fin acc h p
    cases b with
    | false => exact go1 s2
    | true =>
      rw [if_pos rfl]
      refine .bn (Sat.mono s2 fun x h3 s3 => .bn (s3.mono fun y h4 ⟨q, eq, c, p⟩ => ?_))
      simp only [eq]
      rw [if_pos c]
      exact go1 p
end
end PI
/-! ## PiDd -/
set_option Elab.async false
set_option linter.all false
set_option maxRecDepth 100000
set_option maxHeartbeats 4000000
set_option autoImplicit false
/-! PI: {k: v, ..}: denotation, soundness, Sat rule. -/
namespace PI
open PySem L2
def dPr : List (Den × Den) → En → Hh → Res (List (Ky × D))
  | [], _, h => .ok [] h
  | (a, b) :: r, e, h => (a e h).bind fun x h1 => (b e h1).bind fun y h2 => match keyOf x with
    | some k => (dPr r e h2).bind fun ps h3 => .ok ((k, y) :: ps) h3
    | none => .bad
def mergeD (acc kvs : List (Ky × D)) : List (Ky × D) := kvs.foldl (fun acc kv => setK acc kv.1 kv.2) acc
def dDisp (ps : List (Den × Den)) : Den := fun e h => (dPr ps e h).bind fun kvs h1 => .ok (.ref h1.length) (h1 ++ [.dk (mergeD [] kvs)])
section
variable {X : Cx} {G : Gx} {W : WX} {pos : Pos}
theorem RK.merge {ρ : List Addr} {H : Hp} : ∀ {ks : List (Key × V)} {kvs : List (Ky × D)} {as : List (Key × V)} {acc : List (Ky × D)}, RK kyV G ρ H ks kvs → RK kyV G ρ H as acc → RK kyV G ρ H (mergeK as ks) (mergeD acc kvs)
  | _, _, _, _, .nil, r => r
  | _, _, _, _, .cons (k := k) a b, r => by
    have := RK.merge b (RK.put a k r)
    exact this
theorem prs_ok {σ : L2.St} {e : En} {F : List Addr → Hh → Hp → List (Ky × D) → Prop} : ∀ {ds : List (Den × Den)} {ρ : List Addr} {h : Hh} {H : Hp} {Q : List (V × V) → Hp → Prop}, HR G ρ h H → ER G ρ H σ e →
    PostG G ρ H F (fun c d H' => W c d σ H') (dPr ds e h) → (∀ ρ' h' H' ks kvs, Le G ρ H ρ' H' → HR G ρ' h' H' → RK kyV G ρ' H' ks kvs → kvs.length = ds.length → F ρ' h' H' kvs → Q (ks.map fun kv => (kV kv.1, kv.2)) H') →
    tPairs (ds.map fun d => (tI G W d.1, tI G W d.2)) σ H Q
  | [], ρ, h, H, Q, hr, er, p, fin => fin ρ h H [] [] Le.refl hr .nil rfl (p ρ H Le.refl hr)
  | (a, b) :: ds, ρ, h, H, Q, hr, er, p, fin => by
    have p1 : PostG G ρ H (fun ρ1 h1 H1 x => PostG G ρ1 H1 F (fun c d H' => W c d σ H') ((b e h1).bind fun y h2 => match keyOf x with
      | some k => (dPr ds e h2).bind fun ps h3 => .ok ((k, y) :: ps) h3
      | none => .bad)) (fun c d H' => W c d σ H') (a e h) := by
      unfold dPr at p
      cases q : a e h with
      | bad => rw [q] at p; exact p
      | ok k h1 => rw [q] at p; exact fun ρ' H' l _ => PostG.le l p
      | exc c fs h1 => rw [q] at p; exact p
    refine tI.intro hr er p1 fun ρ1 h1 H1 x v l1 hr1 r1 p1 => ?_
    have p2 : PostG G ρ1 H1 (fun ρ2 h2 H2 y => PostG G ρ2 H2 F (fun c d H' => W c d σ H') (match keyOf x with
      | some k => (dPr ds e h2).bind fun ps h3 => .ok ((k, y) :: ps) h3
      | none => .bad)) (fun c d H' => W c d σ H') (b e h1) := by
      cases q : b e h1 with
      | bad => rw [q] at p1; exact p1
      | ok k h1 => rw [q] at p1; exact fun ρ' H' l _ => PostG.le l p1
      | exc c fs h1 => rw [q] at p1; exact p1
    refine tI.intro hr1 (er.mono l1) p2 fun ρ2 h2 H2 y w l2 hr2 r2 p3 => ?_
    split at p3
    · rename_i k qk
      have ek := key_ok (r1.mono l2) qk
      have p4 : PostG G ρ2 H2 (fun ρ3 h3 H3 ps => F ρ3 h3 H3 ((k, y) :: ps)) (fun c d H' => W c d σ H') (dPr ds e h2) := by
        cases q : dPr ds e h2 with
        | bad => rw [q] at p3; exact p3
        | ok ps h3 => rw [q] at p3; exact p3
        | exc c fs h3 => rw [q] at p3; exact p3
      refine prs_ok hr2 ((er.mono l1).mono l2) p4 fun ρ3 h3 H3 ks kvs l3 hr3 rk hl f => ?_
      have := fin ρ3 h3 H3 ((kyV k, w) :: ks) ((k, y) :: kvs) ((l1.trans l2).trans l3) hr3 (.cons (r2.mono l3) rk) (by simp [hl]) f
      rw [List.map_cons] at this
      rw [ek]
      exact this
    · exact p3.elim
theorem ie_disp {keys : List (Option Expr)} {values : List Expr} (ds : List (Den × Den)) (h : PPs X pos keys values (ds.map fun d => (tI G W d.1, tI G W d.2))) (hall : keys.all (·.isSome) = true := by rfl) (hl : keys.length = values.length := by rfl) (h0 : keys ≠ [] := by exact fun z => nomatch z)
    (h15 : keys.length ≤ 15 := by exact Nat.le_of_ble_eq_true rfl) (hd : ds.length ≤ 15 := by exact Nat.le_of_ble_eq_true rfl) : PE X (.Dict keys values pos) (tI G W (dDisp ds)) := by
  refine pe_imp (pe_disp h hall hl h0 h15) fun σ H Q ⟨ρ, h, e, hr, er, p⟩ pa hpa => ?_
  have hr1 := hr.beside (ho := .dK []) hpa
  have l0 : Le G ρ H ρ (upd H pa (.dK [])) := Le.new hpa
  have nD := hr.notin hpa
  have p' : PostG G ρ (upd H pa (.dK [])) (fun ρ' h' H' kvs => ∀ ρ2 H2, Le G ρ H ρ2 H2 → HR G ρ2 (h' ++ [.dk (mergeD [] kvs)]) H2 → ∀ v, RD G ρ2 H2 v (.ref h'.length) → Q v H2) (fun c d H' => W c d σ H') (dPr ds e h) := by
    unfold dDisp at p
    cases q : dPr ds e h with
    | bad => rw [q] at p; exact p
    | ok kvs h1 =>
      rw [q] at p
      exact fun ρ' H' l _ ρ2 H2 l2 hr2 v rv => p ρ2 v H2 l2 hr2 rv
    | exc c fs h1 =>
      rw [q] at p
      exact fun ρ' dd H' l => p ρ' dd H' (l0.trans l)
  refine prs_ok hr1 (er.mono l0) p' fun ρ3 h3 H3 ks kvs l3 hr3 rk hl f => ?_
  obtain ⟨nD3, eD3⟩ := l3.aside upd_same nD
  refine ⟨eD3, ks, rfl, by rw [rk.length, hl]; exact hd, ?_⟩
  have rm : RK kyV G ρ3 H3 (mergeK [] ks) (mergeD [] kvs) := RK.merge rk .nil
  have hr4 := hr3.beside2 (ho := .dK (mergeK [] ks)) nD3 eD3 rfl
  have lA : Le G ρ H ρ3 (upd H3 pa (.dK (mergeK [] ks))) := (l0.trans l3).beside hpa eD3 rfl
  have rm2 : RK kyV G ρ3 (upd H3 pa (.dK (mergeK [] ks))) (mergeK [] ks) (mergeD [] kvs) := RK.mapD (fun r => RD.mono2 (fun _ _ h => sqt_set eD3 rfl h) (fun _ _ h => sqr_set eD3 rfl h) r) rm
  obtain ⟨l2, hr2⟩ := adoptK lA hr4 nD3 hpa upd_same rm2
  exact f _ _ l2 hr2 _ (.ref (by rw [← hr4.len]; simp))
end
section
variable {e : En} {h : Hh} {Q : D → Hh → Prop} {QK : List (Ky × D) → Hh → Prop}
theorem Sat.pr0 (s : QK [] h) : Sat (dPr [] e h) QK := .ok s
instance : Red (Sat (dPr [] e h) QK) (QK [] h) := ⟨Sat.pr0⟩
theorem Sat.prC {a b : Den} {r : List (Den × Den)} (s : Sat (a e h) fun x h1 => Sat (b e h1) fun y h2 => ∃ k, keyOf x = some k ∧ Sat (dPr r e h2) fun ps h3 => QK ((k, y) :: ps) h3) : Sat (dPr ((a, b) :: r) e h) QK := by
  unfold dPr
  exact .bind (s.mono fun x h1 s => .bind (s.mono fun y h2 ⟨k, ek, s⟩ => by
    rw [ek]
    exact .bind (s.mono fun _ _ q => .ok q)))
instance {a b : Den} {r : List (Den × Den)} : Red (Sat (dPr ((a, b) :: r) e h) QK) (Sat (a e h) fun x h1 => Sat (b e h1) fun y h2 => ∃ k, keyOf x = some k ∧ Sat (dPr r e h2) fun ps h3 => QK ((k, y) :: ps) h3) := ⟨Sat.prC⟩
theorem Sat.disp {ps : List (Den × Den)} (s : Sat (dPr ps e h) fun kvs h1 => Q (.ref h1.length) (h1 ++ [.dk (mergeD [] kvs)])) : Sat (dDisp ps e h) Q := .bind (s.mono fun _ _ q => .ok q)
instance {ps : List (Den × Den)} : Red (Sat (dDisp ps e h) Q) (Sat (dPr ps e h) fun kvs h1 => Q (.ref h1.length) (h1 ++ [.dk (mergeD [] kvs)])) := ⟨Sat.disp⟩
end
end PI
/-! ## PiEx -/
set_option Elab.async false
set_option linter.all false
set_option maxRecDepth 100000
set_option maxHeartbeats 4000000
set_option autoImplicit false
/-! PI: raise X('..'), try .. except X. -/
namespace PI
open PySem L2
def sRaise (c : Nat) : SDen := fun e h => .ok (.xc c [] e) h
/-- no exception may come out of it -/
def noX : Fl → Hh → Res Fl
  | .xc _ _ _, _ => .bad
  | f, h => .ok f h
/-- except q: s, n classes in all -/
def sTry (n q : Nat) (b s : SDen) : SDen := fun e h => (b e h).bind fun f h1 => match f with
  | .xc c fs e1 => if c < n then (if c = q then (s e1 h1).bind noX else .ok (.xc c fs e1) h1) else .bad
  | f => .ok f h1
section
variable {X : Cx} {G : Gx} {W : WX} {pos p p2 pos2 pos' np : Pos} {body suite : List Stmt} {b₀ : Stmt} {x m : Str} {b s : SDen} {C : Addr} {n q j : Nat}
/-- what is told of an exception's class -/
def ExcOk (K : PySem.W.Frag) (C : Addr) : Prop := PySem.W.excIn K C He.veBase "ValueError.__new__" = true ∧ PySem.W.keepIn K (.ref C) = true ∧ PySem.W.subIn K (.ref C) (.type "BaseException") = some true ∧ PySem.W.typeIn K (.ref C) = some (.type "type")
theorem is_raise (c : Nat) (hc : X.calm = true) (tk : Takes X W) (E : ExcOk X.K C) (g : X.mg x = some (.ref C)) (hG : G.cm c = .ref C) (hg : Gl X x := by rfl) (hdb : (x == ("__debug__" : Str)) = false := by decide) :
    PS X (.Raise (some (.Call (.Name x p) [.Constant (.str m) j p2] [] pos)) none pos2) (tS G W (sRaise c)) := by
  obtain ⟨e1, e2, e3, e4⟩ := E
  refine ps_imp (ps_raise hc tk (pmk_own PySem.F.excBase_ValueError e1 g e2 (raises_own e3 e4) hg hdb)) fun D σ H ⟨ρ, h, e, hr, er, p⟩ => ?_
  have z := p ρ H Le.refl hr σ none er (.inl rfl)
  rw [hG] at z
  exact z
theorem is_try (n q : Nat) (hs : X.stack = X.env :: X.outer) (hf : X.env.frame = some X.env.locals) (tk : Takes X W) (g : X.mg x = some (.ref C)) (hE : ∀ c, c < n → PySem.W.exmOne X.K (G.cm c) (.ref C) = some (decide (c = q)))
    (hb : ∀ (W : WX) (pn : List (Addr × Obj)) (xe : Value → Shared → Prop), Takes (X.tr pn xe) W → PassesOwn (model X.prog X.w) X.A X.env xe → PSs (X.tr pn xe) body (tS G W b))
    (hsu : ∀ (a : Addr) (pn : List (Addr × Obj)), PSs (X.suite a pn) (b₀ :: suite) (tS G (fun _ _ _ _ => False) s)) (hg : Gl X x := by rfl) (hdb : (x == ("__debug__" : Str)) = false := by decide) :
    PS X (.Try body [.ExceptHandler (some (.Name x np)) none (b₀ :: suite) pos'] [] [] pos) (tS G W (sTry n q b s)) := by
  refine ps_imp (ps_try_only (tb := fun W => tS G W b) (ts := fun _ _ _ => tS G (fun _ _ _ _ => False) s) hs hf ⟨hg, hdb, .inl g⟩ tk hb fun a oe cls d pn _ _ => hsu a ((a, oe) :: pn)) fun D σ H ⟨ρ, h, e, hr, er, p⟩ => ?_
  refine ⟨ρ, h, e, hr, er, ?_⟩
  obtain ⟨f, h1, q1, p1⟩ := PostS.bind p
  rw [q1]
  intro ρ1 H1 l1 hr1
  have p2 := PostS.le l1 p1
  cases f with
  | nx e1 => exact p2 ρ1 H1 Le.refl hr1
  | rt d => exact p2 ρ1 H1 Le.refl hr1
  | bk e1 => exact p2 ρ1 H1 Le.refl hr1
  | ct e1 => exact p2 ρ1 H1 Le.refl hr1
  | xc c fs e1 =>
    intro σ1 dd er1 x1
    dsimp only at p2
    by_cases hc : c < n
    · rw [if_pos hc] at p2
      refine ⟨decide (c = q), hE c hc, fun z a _ => ?_, fun z => ?_⟩
      · rw [if_pos (of_decide_eq_true z)] at p2
        refine ⟨ρ1, h1, e1, hr1, er1, ?_⟩
        obtain ⟨f2, h2, e2, p3⟩ := PostS.bind p2
        rw [e2]
        cases f2 with
        | xc _ _ _ => exact p3.elim
        | nx _ => exact p3
        | rt _ => exact p3
        | bk _ => exact p3
        | ct _ => exact p3
      · rw [if_neg (of_decide_eq_false z)] at p2
        exact p2 ρ1 H1 Le.refl hr1 σ1 dd er1 x1
    · rw [if_neg hc] at p2
      exact p2.elim
end
/-! ### the steps -/
section
variable {α : Type} {e : En} {h : Hh} {QF : Fl → Hh → Prop}
/-- an answer of which Q holds, or an exception of which E holds -/
def SatX (r : Res α) (Q : α → Hh → Prop) (E : Nat → Hh → Prop) : Prop := Sat r Q ∨ ∃ c h, r = .exc c [] h ∧ E c h
theorem SatX.ok {r : Res α} {Q : α → Hh → Prop} {E : Nat → Hh → Prop} (s : Sat r Q) : SatX r Q E := .inl s
theorem SatX.mono {r : Res α} {Q Q' : α → Hh → Prop} {E E' : Nat → Hh → Prop} (s : SatX r Q E) (f : ∀ a h, Q a h → Q' a h) (g : ∀ c h, E c h → E' c h) : SatX r Q' E' := by
  rcases s with s | ⟨c, h, e, q⟩
  · exact .inl (s.mono f)
  · exact .inr ⟨c, h, e, g c h q⟩
theorem Sat.raise {c : Nat} (s : QF (.xc c [] e) h) : Sat (sRaise c e h) QF := .ok s
instance {c : Nat} : Red (Sat (sRaise c e h) QF) (QF (.xc c [] e) h) := ⟨Sat.raise⟩
def noK (QF : Fl → Hh → Prop) : Fl → Hh → Prop
  | .xc _ _ _, _ => False
  | f, h => QF f h
def tryK (n q : Nat) (s : SDen) (QF : Fl → Hh → Prop) : Fl → Hh → Prop
  | .xc c fs e, h => c < n ∧ (if c = q then Sat (s e h) (noK QF) else QF (.xc c fs e) h)
  | f, h => QF f h
theorem Sat.try {n q : Nat} {b s : SDen} (t : Sat (b e h) (tryK n q s QF)) : Sat (sTry n q b s e h) QF := by
  refine .bind (t.mono fun f h1 z => ?_)
  cases f with
  | nx e1 => exact .ok z
  | rt d => exact .ok z
  | bk e1 => exact .ok z
  | ct e1 => exact .ok z
  | xc c fs e1 =>
    obtain ⟨c1, z⟩ := z
    dsimp only
    rw [if_pos c1]
    by_cases d : c = q
    · rw [if_pos d] at z ⊢
      refine .bind (z.mono fun f2 h2 y => ?_)
      cases f2 with
      | xc _ _ _ => exact y.elim
      | nx _ => exact .ok y
      | rt _ => exact .ok y
      | bk _ => exact .ok y
      | ct _ => exact .ok y
    · rw [if_neg d] at z ⊢
      exact .ok z
instance {n q : Nat} {b s : SDen} : Red (Sat (sTry n q b s e h) QF) (Sat (b e h) (tryK n q s QF)) := ⟨Sat.try⟩
instance {n q : Nat} {s : SDen} {e1 : En} : Red (tryK n q s QF (.nx e1) h) (QF (.nx e1) h) := ⟨fun z => z⟩
instance {n q : Nat} {s : SDen} {d : D} : Red (tryK n q s QF (.rt d) h) (QF (.rt d) h) := ⟨fun z => z⟩
instance {e1 : En} : Red (noK QF (.nx e1) h) (QF (.nx e1) h) := ⟨fun z => z⟩
instance {d : D} : Red (noK QF (.rt d) h) (QF (.rt d) h) := ⟨fun z => z⟩
theorem tryK.hit {n q : Nat} {s : SDen} {fs : List (List Nat × D)} {e1 : En} (hq : q < n) (z : Sat (s e1 h) (noK QF)) : tryK n q s QF (.xc q fs e1) h := ⟨hq, by rw [if_pos rfl]; exact z⟩
/-- a def's body that may raise -/
def retX (Q : D → Hh → Prop) (E : Nat → Hh → Prop) : Fl → Hh → Prop
  | .rt d, h => Q d h
  | .nx _, h => Q .non h
  | .xc c fs _, h => fs = [] ∧ E c h
  | _, _ => False
instance {Q : D → Hh → Prop} {E : Nat → Hh → Prop} {d : D} : Red (retX Q E (.rt d) h) (Q d h) := ⟨fun z => z⟩
instance {Q : D → Hh → Prop} {E : Nat → Hh → Prop} {e1 : En} : Red (retX Q E (.nx e1) h) (Q .non h) := ⟨fun z => z⟩
theorem retX.xc {Q : D → Hh → Prop} {E : Nat → Hh → Prop} {c : Nat} {e1 : En} (z : E c h) : retX Q E (.xc c [] e1) h := ⟨rfl, z⟩
instance {Q : D → Hh → Prop} {E : Nat → Hh → Prop} {c : Nat} {e1 : En} : Red (retX Q E (.xc c [] e1) h) (E c h) := ⟨retX.xc⟩
instance {b : SDen} {c : Nat} {fs : List (List Nat × D)} {e1 : En} : Red (seqK b QF (.xc c fs e1) h) (QF (.xc c fs e1) h) := ⟨fun z => z⟩
theorem SatX.body {n ps : Nat} {b : SDen} {ds : List D} {Q : D → Hh → Prop} {E : Nat → Hh → Prop} (c : ds.length = ps) (s : Sat (b (ds.map some ++ List.replicate (n - ps) none) h) (retX Q E)) : SatX (runBody n b ps ds h) Q E := by
  unfold runBody
  rw [if_pos c]
  obtain ⟨f, h1, q1, q⟩ := s
  rw [q1]
  cases f with
  | rt d => exact .inl (.ok q)
  | nx e => exact .inl (.ok q)
  | bk e => exact q.elim
  | ct e => exact q.elim
  | xc c fs e =>
    obtain ⟨rfl, q⟩ := q
    exact .inr ⟨c, h1, rfl, q⟩
/-- a call that may raise, its arguments known -/
theorem SatX.callN {cl : Cal} {k np : Nat} {r : ADen} {Q : D → Hh → Prop} {E : Nat → Hh → Prop} (s : Sat (r e h) fun xs h1 => xs.length = np ∧ SatX (cl k xs h1) Q E) : SatX (dCallN cl k np r e h) Q E := by
  obtain ⟨xs, h1, e1, c, s⟩ := s
  unfold dCallN
  rw [e1]
  simp only [bind_ok]
  rw [if_pos c]
  exact s
theorem Sat.asgX {a : Den} {g : GDen} (s : SatX (a e h) (fun x h1 => Sat (g x e h1) fun e1 h2 => QF (.nx e1) h2) fun c h1 => QF (.xc c [] e) h1) : Sat (sAsg a g e h) QF := by
  rcases s with s | ⟨c, h1, e1, q⟩
  · exact Sat.asg s
  · unfold sAsg
    rw [e1]
    exact .ok q
theorem Sat.retX {a : Den} (s : SatX (a e h) (fun x h1 => QF (.rt x) h1) fun c h1 => QF (.xc c [] e) h1) : Sat (sRet a e h) QF := by
  rcases s with s | ⟨c, h1, e1, q⟩
  · exact Sat.ret s
  · unfold sRet
    rw [e1]
    exact .ok q
end
end PI
/-! ## Den_K11 -/
set_option linter.all false
set_option autoImplicit false
/-! denotations of shapewright_k11_substitution; printed by gen.py -/
namespace K11
open PI
/-- 'v' -/
def s_v : List Nat := [118]
/-- 'c' -/
def s_c : List Nat := [99]
/-- 't' -/
def s_t : List Nat := [116]
/-- 'f' -/
def s_f : List Nat := [102]
def g_MAX_SIZE : D := (.int 2000)
def g_MAX_DEPTH : D := (.int 100)
/-- direct_parts(shape): 0 shape -/
def b_direct_parts (c : Cal) : SDen :=
 (sSeq (sIf (tV (dBin cEq (dBin oIx (dVar 0) (dC (.int 0))) (dC (.str s_v))))
 (sRet (dTup aNil))
 sNil)
 (sSeq (sIf (tV (dBin cEq (dBin oIx (dVar 0) (dC (.int 0))) (dC (.str s_c))))
 (sRet (dBin oIx (dVar 0) (dC (.int 2))))
 sNil)
 (sSeq (sIf (tV (dBin cEq (dBin oIx (dVar 0) (dC (.int 0))) (dC (.str s_t))))
 (sRet (dBin oIx (dVar 0) (dC (.int 1))))
 sNil)
 (sRet (dTup (aCons (dBin oIx (dVar 0) (dC (.int 1))) (aCons (dBin oIx (dVar 0) (dC (.int 2))) aNil)))))))
/-- with_parts(shape, new_parts): 0 shape 1 new_parts -/
def b_with_parts (c : Cal) : SDen :=
 (sSeq (sIf (tV (dBin cEq (dBin oIx (dVar 0) (dC (.int 0))) (dC (.str s_v))))
 (sRet (dVar 0))
 sNil)
 (sSeq (sIf (tV (dBin cEq (dBin oIx (dVar 0) (dC (.int 0))) (dC (.str s_c))))
 (sRet (dTup (aCons (dC (.str s_c)) (aCons (dBin oIx (dVar 0) (dC (.int 1))) (aCons (dVar 1) aNil)))))
 sNil)
 (sSeq (sIf (tV (dBin cEq (dBin oIx (dVar 0) (dC (.int 0))) (dC (.str s_t))))
 (sRet (dTup (aCons (dC (.str s_t)) (aCons (dVar 1) aNil))))
 sNil)
 (sRet (dTup (aCons (dC (.str s_f)) (aCons (dBin oIx (dVar 1) (dC (.int 0))) (aCons (dBin oIx (dVar 1) (dC (.int 1))) aNil))))))))
/-- within_bounds(shape): 0 shape 1 waiting 2 many 3 node 4 level 5 part -/
def b_within_bounds (c : Cal) : SDen :=
 (sSeq (sAsg (dLst (aCons (dTup (aCons (dVar 0) (aCons (dC (.int 1)) aNil))) aNil)) (gNm 1))
 (sSeq (sAsg (dC (.int 0)) (gNm 2))
 (sSeq (sWhile (tT (dVar 1))
 (sSeq (sAsg (dMeth mPop (dVar 1) aNil) (gTp 2 (gsCons (gNm 3) (gsCons (gNm 4) gsNil))))
 (sSeq (sAug 2 oIadd (dC (.int 1)))
 (sSeq (sIf (PI.tOr (tV (dBin cGt (dVar 2) (dC g_MAX_SIZE))) (tV (dBin cGt (dVar 4) (dC g_MAX_DEPTH))))
 (sRet (dC (.bl false)))
 sNil)
 (sFor (wSeq (dCallN c 0 1 (aCons (dVar 3) aNil))) (gNm 5)
 (sExpr (dMeth mAppend (dVar 1) (aCons (dTup (aCons (dVar 5) (aCons (dBin oAdd (dVar 4) (dC (.int 1))) aNil))) aNil))))))))
 (sRet (dC (.bl true))))))
/-- replace_variables(shape, mapping): 0 shape 1 mapping 2 new_parts 3 part -/
def b_replace_variables (c : Cal) : SDen :=
 (sSeq (sIf (tV (dBin cEq (dBin oIx (dVar 0) (dC (.int 0))) (dC (.str s_v))))
 (sRet (dGet2 (dVar 1) (dBin oIx (dVar 0) (dC (.int 1))) (dVar 0)))
 sNil)
 (sSeq (sAsg (dArgs fTup (aComp (wSeq (dCallN c 0 1 (aCons (dVar 0) aNil))) [3] (gNm 3) PI.tYes (dCallN c 3 2 (aCons (dVar 3) (aCons (dVar 1) aNil))))) (gNm 2))
 (sRet (dCallN c 1 2 (aCons (dVar 0) (aCons (dVar 2) aNil))))))
/-- substitute(shape, mapping): 0 shape 1 mapping 2 result -/
def b_substitute (c : Cal) : SDen :=
 (sSeq (sAsg (dCallN c 3 2 (aCons (dVar 0) (aCons (dVar 1) aNil))) (gNm 2))
 (sSeq (sIf (PI.tNot (tT (dCallN c 2 1 (aCons (dVar 2) aNil))))
 (sRaise 0)
 sNil)
 (sRet (dVar 2))))
/-- _law_same(a, b): 0 a 1 b 2 k 3 key -/
def b__law_same (c : Cal) : SDen :=
 (sSeq (sIf (PI.tOr (PI.tAnd (tT (dIsA .tuple (dVar 0))) (tT (dIsA .tuple (dVar 1)))) (PI.tAnd (tT (dIsA .list (dVar 0))) (tT (dIsA .list (dVar 1)))))
 (sRet (dAnd (dBin cEq (dArgs bLen (aCons (dVar 0) aNil)) (dArgs bLen (aCons (dVar 1) aNil))) (dArgs fAll (aComp (wRng1 (dArgs bLen (aCons (dVar 0) aNil))) [2] (gNm 2) PI.tYes (dCallN c 5 2 (aCons (dBin oIx (dVar 0) (dVar 2)) (aCons (dBin oIx (dVar 1) (dVar 2)) aNil)))))))
 sNil)
 (sSeq (sIf (PI.tAnd (tT (dIsA .dict (dVar 0))) (tT (dIsA .dict (dVar 1))))
 (sRet (dAnd (dBin cEq (dArgs bLen (aCons (dVar 0) aNil)) (dArgs bLen (aCons (dVar 1) aNil))) (dArgs fAll (aComp (wSeq (dVar 0)) [3] (gNm 3) PI.tYes (dAnd (dBin cIn (dVar 3) (dVar 1)) (dCallN c 5 2 (aCons (dBin oIx (dVar 0) (dVar 3)) (aCons (dBin oIx (dVar 1) (dVar 3)) aNil))))))))
 sNil)
 (sSeq (sIf (PI.tOr (tT (dIsA .bool (dVar 0))) (tT (dIsA .bool (dVar 1))))
 (sRet (dAnd (dIsA .bool (dVar 0)) (dAnd (dIsA .bool (dVar 1)) (dBin cEq (dVar 0) (dVar 1)))))
 sNil)
 (sSeq (sIf (PI.tOr (PI.tAnd (tT (dIsA .int (dVar 0))) (tT (dIsA .int (dVar 1)))) (PI.tAnd (tT (dIsA .str (dVar 0))) (tT (dIsA .str (dVar 1)))))
 (sRet (dBin cEq (dVar 0) (dVar 1)))
 sNil)
 (sRet (dAnd (dUn cIsN (dVar 0)) (dUn cIsN (dVar 1))))))))
/-- _law_tape(script, many): 0 script 1 many 2 cells 3 cell 4 big 5 value 6 tape 7 k -/
def b__law_tape (c : Cal) : SDen :=
 (sSeq (sAsg (dLst (aCons (dC (.int 0)) aNil)) (gNm 2))
 (sSeq (sFor (wSeq (dSl (dVar 0) pNone (pSome (dC (.int 63))))) (gNm 3)
 (sExpr (dMeth mAppend (dVar 2) (aCons (dArgs bAbs (aCons (dVar 3) aNil)) aNil))))
 (sSeq (sAsg (dArgs bMax1 (aCons (dVar 2) aNil)) (gNm 4))
 (sSeq (sIf (tV (dBin cLt (dVar 4) (dBin oPow (dC (.int 10)) (dC (.int 18)))))
 (sAsg (dC (.int 0)) (gNm 4))
 sNil)
 (sSeq (sAsg (dBin oAdd (dC (.int 12345)) (dArgs bLen (aCons (dVar 2) aNil))) (gNm 5))
 (sSeq (sAsg (dLst aNil) (gNm 6))
 (sSeq (sFor (wRng1 (dVar 1)) (gNm 7)
 (sIf (tV (dBin cGt (dVar 4) (dC (.int 0))))
 (sSeq (sExpr (dMeth mAppend (dVar 6) (aCons (dBin oMod (dArgs bInt (aCons (dVar 4) aNil)) (dC (.int 1009))) aNil)))
 (sAsg (dBin oDiv (dVar 4) (dC (.int 1009))) (gNm 4)))
 (sSeq (sAsg (dBin oMod (dArgs bInt (aCons (dBin oAdd (dBin oAdd (dBin oMul (dVar 5) (dC (.int 48271))) (dBin oMul (dBin oIx (dVar 2) (dBin oMod (dArgs bInt (aCons (dVar 7) aNil)) (dArgs bLen (aCons (dVar 2) aNil)))) (dC (.int 69621)))) (dVar 7)) aNil)) (dC (.int 2147483647))) (gNm 5))
 (sExpr (dMeth mAppend (dVar 6) (aCons (dBin oMod (dArgs bInt (aCons (dBin oAdd (dBin oMul (dVar 5) (dC (.int 16807))) (dBin oMul (dVar 7) (dC (.int 7919)))) aNil)) (dC (.int 1000003))) aNil))))))
 (sRet (dVar 6)))))))))
/-- _law_pick(tape, at, many): 0 tape 1 at 2 many -/
def b__law_pick (c : Cal) : SDen :=
 (sRet (dBin oMod (dArgs bInt (aCons (dBin oIx (dVar 0) (dBin oMod (dArgs bInt (aCons (dVar 1) aNil)) (dArgs bLen (aCons (dVar 0) aNil)))) aNil)) (dVar 2)))
/-- _law_leaf(tape, at, free): 0 tape 1 at 2 free 3 pick -/
def b__law_leaf (c : Cal) : SDen :=
 (sSeq (sAsg (dCallN c 7 3 (aCons (dVar 0) (aCons (dVar 1) (aCons (dBin oAdd (dC (.int 4)) (dArgs bLen (aCons (dVar 2) aNil))) aNil)))) (gNm 3))
 (sSeq (sIf (tV (dBin cGe (dVar 3) (dC (.int 4))))
 (sRet (dTup (aCons (dC (.str s_v)) (aCons (dBin oIx (dVar 2) (dBin oSub (dVar 3) (dC (.int 4)))) aNil))))
 sNil)
 (sRet (dTup (aCons (dC (.str s_c)) (aCons (dBin oIx (dTup (aCons (dC (.int 0)) (aCons (dC (.int 1)) (aCons (dC (.int 4)) (aCons (dC (.int 0)) aNil))))) (dVar 3)) (aCons (dTup aNil) aNil)))))))
/-- _law_shape(tape, at, level, free): 0 tape 1 at 2 level 3 free 4 pick 5 left 6 right 7 inner 8 parts 9 many 10 k 11 part -/
def b__law_shape (c : Cal) : SDen :=
 (sSeq (sAsg (dCallN c 7 3 (aCons (dVar 0) (aCons (dVar 1) (aCons (dC (.int 7)) aNil)))) (gNm 4))
 (sSeq (sIf (PI.tOr (tV (dBin cLe (dVar 2) (dC (.int 0)))) (tV (dBin cLt (dVar 4) (dC (.int 2)))))
 (sRet (dTup (aCons (dCallN c 8 3 (aCons (dVar 0) (aCons (dBin oAdd (dVar 1) (dC (.int 1))) (aCons (dVar 3) aNil)))) (aCons (dBin oAdd (dVar 1) (dC (.int 2))) aNil))))
 sNil)
 (sSeq (sIf (tV (dBin cLt (dVar 4) (dC (.int 4))))
 (sSeq (sAsg (dCallN c 9 4 (aCons (dVar 0) (aCons (dBin oAdd (dVar 1) (dC (.int 1))) (aCons (dBin oSub (dVar 2) (dC (.int 1))) (aCons (dVar 3) aNil))))) (gTp 2 (gsCons (gNm 5) (gsCons (gNm 1) gsNil))))
 (sSeq (sAsg (dCallN c 9 4 (aCons (dVar 0) (aCons (dVar 1) (aCons (dBin oSub (dVar 2) (dC (.int 1))) (aCons (dVar 3) aNil))))) (gTp 2 (gsCons (gNm 6) (gsCons (gNm 1) gsNil))))
 (sRet (dTup (aCons (dTup (aCons (dC (.str s_f)) (aCons (dVar 5) (aCons (dVar 6) aNil)))) (aCons (dVar 1) aNil))))))
 sNil)
 (sSeq (sIf (tV (dBin cEq (dVar 4) (dC (.int 4))))
 (sSeq (sAsg (dCallN c 9 4 (aCons (dVar 0) (aCons (dBin oAdd (dVar 1) (dC (.int 1))) (aCons (dBin oSub (dVar 2) (dC (.int 1))) (aCons (dVar 3) aNil))))) (gTp 2 (gsCons (gNm 7) (gsCons (gNm 1) gsNil))))
 (sRet (dTup (aCons (dTup (aCons (dC (.str s_c)) (aCons (dBin oIx (dTup (aCons (dC (.int 3)) (aCons (dC (.int 5)) (aCons (dC (.int 6)) aNil)))) (dCallN c 7 3 (aCons (dVar 0) (aCons (dVar 1) (aCons (dC (.int 3)) aNil))))) (aCons (dTup (aCons (dVar 7) aNil)) aNil)))) (aCons (dBin oAdd (dVar 1) (dC (.int 1))) aNil)))))
 sNil)
 (sSeq (sAsg (dLst aNil) (gNm 8))
 (sSeq (sAsg (dBin oAdd (dC (.int 2)) (dBin oDiv (dCallN c 7 3 (aCons (dVar 0) (aCons (dBin oAdd (dVar 1) (dC (.int 1))) (aCons (dC (.int 5)) aNil)))) (dC (.int 2)))) (gNm 9))
 (sSeq (sAsg (dBin oAdd (dVar 1) (dC (.int 2))) (gNm 1))
 (sSeq (sFor (wRng1 (dVar 9)) (gNm 10)
 (sSeq (sAsg (dCallN c 9 4 (aCons (dVar 0) (aCons (dVar 1) (aCons (dBin oSub (dVar 2) (dC (.int 1))) (aCons (dVar 3) aNil))))) (gTp 2 (gsCons (gNm 11) (gsCons (gNm 1) gsNil))))
 (sExpr (dMeth mAppend (dVar 8) (aCons (dVar 11) aNil)))))
 (sRet (dTup (aCons (dTup (aCons (dC (.str s_t)) (aCons (dArgs bTuple (aCons (dVar 8) aNil)) aNil))) (aCons (dVar 1) aNil))))))))))))
/-- _law_parts(shape): 0 shape -/
def b__law_parts (c : Cal) : SDen :=
 (sSeq (sIf (tV (dBin cEq (dBin oIx (dVar 0) (dC (.int 0))) (dC (.str s_v))))
 (sRet (dTup aNil))
 sNil)
 (sSeq (sIf (tV (dBin cEq (dBin oIx (dVar 0) (dC (.int 0))) (dC (.str s_c))))
 (sRet (dBin oIx (dVar 0) (dC (.int 2))))
 sNil)
 (sSeq (sIf (tV (dBin cEq (dBin oIx (dVar 0) (dC (.int 0))) (dC (.str s_t))))
 (sRet (dBin oIx (dVar 0) (dC (.int 1))))
 sNil)
 (sRet (dTup (aCons (dBin oIx (dVar 0) (dC (.int 1))) (aCons (dBin oIx (dVar 0) (dC (.int 2))) aNil)))))))
/-- _law_rebuilt(shape, parts): 0 shape 1 parts -/
def b__law_rebuilt (c : Cal) : SDen :=
 (sSeq (sIf (tV (dBin cEq (dBin oIx (dVar 0) (dC (.int 0))) (dC (.str s_c))))
 (sRet (dTup (aCons (dC (.str s_c)) (aCons (dBin oIx (dVar 0) (dC (.int 1))) (aCons (dArgs bTuple (aCons (dVar 1) aNil)) aNil)))))
 sNil)
 (sSeq (sIf (tV (dBin cEq (dBin oIx (dVar 0) (dC (.int 0))) (dC (.str s_t))))
 (sRet (dTup (aCons (dC (.str s_t)) (aCons (dArgs bTuple (aCons (dVar 1) aNil)) aNil))))
 sNil)
 (sRet (dTup (aCons (dC (.str s_f)) (aCons (dBin oIx (dVar 1) (dC (.int 0))) (aCons (dBin oIx (dVar 1) (dC (.int 1))) aNil)))))))
/-- _law_apply(shape, pairs): 0 shape 1 pairs 2 number 3 due 4 part -/
def b__law_apply (c : Cal) : SDen :=
 (sSeq (sIf (tV (dBin cEq (dBin oIx (dVar 0) (dC (.int 0))) (dC (.str s_v))))
 (sSeq (sFor (wSeq (dVar 1)) (gTp 2 (gsCons (gNm 2) (gsCons (gNm 3) gsNil)))
 (sIf (tV (dBin cEq (dVar 2) (dBin oIx (dVar 0) (dC (.int 1)))))
 (sRet (dVar 3))
 sNil))
 (sRet (dVar 0)))
 sNil)
 (sRet (dCallN c 11 2 (aCons (dVar 0) (aCons (dLc (aComp (wSeq (dCallN c 10 1 (aCons (dVar 0) aNil))) [4] (gNm 4) PI.tYes (dCallN c 12 2 (aCons (dVar 4) (aCons (dVar 1) aNil))))) aNil)))))
/-- _law_chain(level, end): 0 level 1 end 2 shape 3 k -/
def b__law_chain (c : Cal) : SDen :=
 (sSeq (sAsg (dVar 1) (gNm 2))
 (sSeq (sFor (wRng1 (dBin oSub (dVar 0) (dC (.int 1)))) (gNm 3)
 (sAsg (dTup (aCons (dC (.str s_f)) (aCons (dTup (aCons (dC (.str s_c)) (aCons (dC (.int 4)) (aCons (dTup aNil) aNil)))) (aCons (dVar 2) aNil)))) (gNm 2)))
 (sRet (dVar 2))))
/-- _law_flat(pieces, rest): 0 pieces 1 rest 2 shape 3 k -/
def b__law_flat (c : Cal) : SDen :=
 (sSeq (sAsg (dTup (aCons (dC (.str s_c)) (aCons (dC (.int 0)) (aCons (dTup aNil) aNil)))) (gNm 2))
 (sSeq (sFor (wRng1 (dVar 0)) (gNm 3)
 (sAsg (dTup (aCons (dC (.str s_t)) (aCons (dTup (aCons (dVar 2) (aCons (dTup (aCons (dC (.str s_v)) (aCons (dC (.int 1000000)) aNil))) aNil))) aNil))) (gNm 2)))
 (sRet (dTup (aCons (dC (.str s_t)) (aCons (dTup (aCons (dVar 2) (aCons (dVar 1) aNil))) aNil))))))
/-- _law_answer(shape, mapping): 0 shape 1 mapping -/
def b__law_answer (c : Cal) : SDen :=
 (sTry 1 0
 (sRet (dCallN c 4 2 (aCons (dVar 0) (aCons (dVar 1) aNil))))
 (sRet (dC .non)))
/-- _law_edge(tape): 0 tape 1 first 2 second 3 due 4 actual 5 pieces 6 inner 7 k 8 many 9 total -/
def b__law_edge (c : Cal) : SDen :=
 (sSeq (sIf (tV (dBin cEq (dCallN c 7 3 (aCons (dVar 0) (aCons (dC (.int 0)) (aCons (dC (.int 6)) aNil)))) (dC (.int 1))))
 (sSeq (sAsg (dBin oAdd (dC (.int 40)) (dCallN c 7 3 (aCons (dVar 0) (aCons (dC (.int 1)) (aCons (dC (.int 21)) aNil))))) (gNm 1))
 (sSeq (sAsg (dBin oAdd (dC (.int 40)) (dCallN c 7 3 (aCons (dVar 0) (aCons (dC (.int 2)) (aCons (dC (.int 21)) aNil))))) (gNm 2))
 (sSeq (sAsg (dCallN c 13 2 (aCons (dBin oSub (dBin oAdd (dVar 1) (dVar 2)) (dC (.int 1))) (aCons (dTup (aCons (dC (.str s_c)) (aCons (dC (.int 1)) (aCons (dTup aNil) aNil)))) aNil))) (gNm 3))
 (sSeq (sAsg (dCallN c 15 2 (aCons (dCallN c 13 2 (aCons (dVar 1) (aCons (dTup (aCons (dC (.str s_v)) (aCons (dC (.int 1000000)) aNil))) aNil))) (aCons (dDisp [((dC (.int 1000000)), (dCallN c 13 2 (aCons (dVar 2) (aCons (dTup (aCons (dC (.str s_c)) (aCons (dC (.int 1)) (aCons (dTup aNil) aNil)))) aNil))))]) aNil))) (gNm 4))
 (sSeq (sIf (tV (dBin cGt (dBin oSub (dBin oAdd (dVar 1) (dVar 2)) (dC (.int 1))) (dC (.int 100))))
 (sRet (dUn cIsN (dVar 4)))
 sNil)
 (sRet (dCallN c 5 2 (aCons (dVar 4) (aCons (dVar 3) aNil)))))))))
 sNil)
 (sSeq (sAsg (dBin oAdd (dC (.int 19)) (dCallN c 7 3 (aCons (dVar 0) (aCons (dC (.int 3)) (aCons (dC (.int 3)) aNil))))) (gNm 5))
 (sSeq (sAsg (dTup (aCons (dC (.str s_c)) (aCons (dC (.int 0)) (aCons (dTup aNil) aNil)))) (gNm 6))
 (sSeq (sFor (wRng1 (dBin oAdd (dC (.int 23)) (dCallN c 7 3 (aCons (dVar 0) (aCons (dC (.int 4)) (aCons (dC (.int 4)) aNil)))))) (gNm 7)
 (sAsg (dTup (aCons (dC (.str s_f)) (aCons (dTup (aCons (dC (.str s_t)) (aCons (dTup (aCons (dTup (aCons (dC (.str s_c)) (aCons (dC (.int 0)) (aCons (dTup aNil) aNil)))) (aCons (dTup (aCons (dC (.str s_c)) (aCons (dC (.int 1)) (aCons (dTup aNil) aNil)))) aNil))) aNil))) (aCons (dVar 6) aNil)))) (gNm 6)))
 (sSeq (sAsg (dBin oAdd (dC (.int 1)) (dBin oMul (dC (.int 4)) (dBin oAdd (dC (.int 23)) (dCallN c 7 3 (aCons (dVar 0) (aCons (dC (.int 4)) (aCons (dC (.int 4)) aNil))))))) (gNm 8))
 (sSeq (sAsg (dBin oAdd (dBin oAdd (dBin oAdd (dC (.int 2)) (dC (.int 1))) (dVar 5)) (dBin oMul (dVar 5) (dVar 8))) (gNm 9))
 (sSeq (sIf (tV (dBin cEq (dCallN c 7 3 (aCons (dVar 0) (aCons (dC (.int 5)) (aCons (dC (.int 2)) aNil)))) (dC (.int 0))))
 (sSeq (sAsg (dTup (aCons (dC (.str s_f)) (aCons (dTup (aCons (dC (.str s_c)) (aCons (dC (.int 0)) (aCons (dTup aNil) aNil)))) (aCons (dVar 6) aNil)))) (gNm 6))
 (sAsg (dBin oAdd (dVar 9) (dBin oMul (dC (.int 2)) (dVar 5))) (gNm 9)))
 sNil)
 (sSeq (sAsg (dCallN c 15 2 (aCons (dCallN c 14 2 (aCons (dVar 5) (aCons (dTup (aCons (dC (.str s_c)) (aCons (dC (.int 4)) (aCons (dTup aNil) aNil)))) aNil))) (aCons (dDisp [((dC (.int 1000000)), (dVar 6))]) aNil))) (gNm 4))
 (sSeq (sIf (tV (dBin cGt (dVar 9) (dC (.int 2000))))
 (sRet (dUn cIsN (dVar 4)))
 sNil)
 (sRet (dUn cNotN (dVar 4))))))))))))
/-- law(script): 0 script 1 tape 2 shape 3 at 4 pairs 5 mapping 6 k 7 due 8 actual 9 number -/
def b_law (c : Cal) : SDen :=
 (sSeq (sAsg (dCallN c 6 2 (aCons (dVar 0) (aCons (dC (.int 160)) aNil))) (gNm 1))
 (sSeq (sIf (tV (dBin cLt (dCallN c 7 3 (aCons (dVar 1) (aCons (dC (.int 0)) (aCons (dC (.int 6)) aNil)))) (dC (.int 2))))
 (sRet (dCallN c 16 1 (aCons (dVar 1) aNil)))
 sNil)
 (sSeq (sAsg (dCallN c 9 4 (aCons (dVar 1) (aCons (dC (.int 7)) (aCons (dC (.int 3)) (aCons (dLst (aCons (dC (.int 1000000)) (aCons (dC (.int 1000001)) (aCons (dC (.int 1000002)) (aCons (dC (.int 1000009)) aNil))))) aNil))))) (gTp 2 (gsCons (gNm 2) (gsCons (gNm 3) gsNil))))
 (sSeq (sAsg (dLst aNil) (gNm 4))
 (sSeq (sAsg dNewK (gNm 5))
 (sSeq (sFor (wRng1 (dBin oAdd (dC (.int 1)) (dCallN c 7 3 (aCons (dVar 1) (aCons (dC (.int 6)) (aCons (dC (.int 3)) aNil)))))) (gNm 6)
 (sSeq (sAsg (dCallN c 9 4 (aCons (dVar 1) (aCons (dVar 3) (aCons (dC (.int 2)) (aCons (dLst (aCons (dC (.int 1000000)) (aCons (dC (.int 1000001)) (aCons (dC (.int 1000002)) aNil)))) aNil))))) (gTp 2 (gsCons (gNm 7) (gsCons (gNm 3) gsNil))))
 (sSeq (sExpr (dMeth mAppend (dVar 4) (aCons (dTup (aCons (dBin oAdd (dC (.int 1000000)) (dVar 6)) (aCons (dVar 7) aNil))) aNil)))
 (sDSet (dVar 5) (dBin oAdd (dC (.int 1000000)) (dVar 6)) (dVar 7)))))
 (sSeq (sAsg (dCallN c 4 2 (aCons (dVar 2) (aCons (dVar 5) aNil))) (gNm 8))
 (sSeq (sIf (PI.tNot (tT (dCallN c 5 2 (aCons (dCallN c 4 2 (aCons (dVar 2) (aCons dNewK aNil))) (aCons (dVar 2) aNil)))))
 (sRet (dC (.bl false)))
 sNil)
 (sSeq (sIf (PI.tOr (PI.tNot (tT (dCallN c 5 2 (aCons (dVar 8) (aCons (dCallN c 12 2 (aCons (dVar 2) (aCons (dVar 4) aNil))) aNil))))) (tV (dBin cNe (dArgs bLen (aCons (dVar 5) aNil)) (dArgs bLen (aCons (dVar 4) aNil)))))
 (sRet (dC (.bl false)))
 sNil)
 (sSeq (sFor (wSeq (dVar 4)) (gTp 2 (gsCons (gNm 9) (gsCons (gNm 7) gsNil)))
 (sIf (tV (dBin cNe (dDGet (dVar 5) (dVar 9)) (dVar 7)))
 (sRet (dC (.bl false)))
 sNil))
 (sRet (dC (.bl true)))))))))))))
def T : Nat → Df
  | 0 => ⟨1, 1, b_direct_parts⟩
  | 1 => ⟨2, 2, b_with_parts⟩
  | 2 => ⟨6, 1, b_within_bounds⟩
  | 3 => ⟨4, 2, b_replace_variables⟩
  | 4 => ⟨3, 2, b_substitute⟩
  | 5 => ⟨4, 2, b__law_same⟩
  | 6 => ⟨8, 2, b__law_tape⟩
  | 7 => ⟨3, 3, b__law_pick⟩
  | 8 => ⟨4, 3, b__law_leaf⟩
  | 9 => ⟨12, 4, b__law_shape⟩
  | 10 => ⟨1, 1, b__law_parts⟩
  | 11 => ⟨2, 2, b__law_rebuilt⟩
  | 12 => ⟨5, 2, b__law_apply⟩
  | 13 => ⟨4, 2, b__law_chain⟩
  | 14 => ⟨4, 2, b__law_flat⟩
  | 15 => ⟨2, 2, b__law_answer⟩
  | 16 => ⟨10, 1, b__law_edge⟩
  | 17 => ⟨10, 1, b_law⟩
  | _ => ⟨0, 0, fun _ => sNil⟩
theorem sem_direct_parts (f : Nat) (ds : List D) (h : Hh) : sem T (f + 1) 0 ds h = runBody 1 (b_direct_parts (sem T f)) 1 ds h := rfl
theorem sem_with_parts (f : Nat) (ds : List D) (h : Hh) : sem T (f + 1) 1 ds h = runBody 2 (b_with_parts (sem T f)) 2 ds h := rfl
theorem sem_within_bounds (f : Nat) (ds : List D) (h : Hh) : sem T (f + 1) 2 ds h = runBody 6 (b_within_bounds (sem T f)) 1 ds h := rfl
theorem sem_replace_variables (f : Nat) (ds : List D) (h : Hh) : sem T (f + 1) 3 ds h = runBody 4 (b_replace_variables (sem T f)) 2 ds h := rfl
theorem sem_substitute (f : Nat) (ds : List D) (h : Hh) : sem T (f + 1) 4 ds h = runBody 3 (b_substitute (sem T f)) 2 ds h := rfl
theorem sem__law_same (f : Nat) (ds : List D) (h : Hh) : sem T (f + 1) 5 ds h = runBody 4 (b__law_same (sem T f)) 2 ds h := rfl
theorem sem__law_tape (f : Nat) (ds : List D) (h : Hh) : sem T (f + 1) 6 ds h = runBody 8 (b__law_tape (sem T f)) 2 ds h := rfl
theorem sem__law_pick (f : Nat) (ds : List D) (h : Hh) : sem T (f + 1) 7 ds h = runBody 3 (b__law_pick (sem T f)) 3 ds h := rfl
theorem sem__law_leaf (f : Nat) (ds : List D) (h : Hh) : sem T (f + 1) 8 ds h = runBody 4 (b__law_leaf (sem T f)) 3 ds h := rfl
theorem sem__law_shape (f : Nat) (ds : List D) (h : Hh) : sem T (f + 1) 9 ds h = runBody 12 (b__law_shape (sem T f)) 4 ds h := rfl
theorem sem__law_parts (f : Nat) (ds : List D) (h : Hh) : sem T (f + 1) 10 ds h = runBody 1 (b__law_parts (sem T f)) 1 ds h := rfl
theorem sem__law_rebuilt (f : Nat) (ds : List D) (h : Hh) : sem T (f + 1) 11 ds h = runBody 2 (b__law_rebuilt (sem T f)) 2 ds h := rfl
theorem sem__law_apply (f : Nat) (ds : List D) (h : Hh) : sem T (f + 1) 12 ds h = runBody 5 (b__law_apply (sem T f)) 2 ds h := rfl
theorem sem__law_chain (f : Nat) (ds : List D) (h : Hh) : sem T (f + 1) 13 ds h = runBody 4 (b__law_chain (sem T f)) 2 ds h := rfl
theorem sem__law_flat (f : Nat) (ds : List D) (h : Hh) : sem T (f + 1) 14 ds h = runBody 4 (b__law_flat (sem T f)) 2 ds h := rfl
theorem sem__law_answer (f : Nat) (ds : List D) (h : Hh) : sem T (f + 1) 15 ds h = runBody 2 (b__law_answer (sem T f)) 2 ds h := rfl
theorem sem__law_edge (f : Nat) (ds : List D) (h : Hh) : sem T (f + 1) 16 ds h = runBody 10 (b__law_edge (sem T f)) 1 ds h := rfl
theorem sem_law (f : Nat) (ds : List D) (h : Hh) : sem T (f + 1) 17 ds h = runBody 10 (b_law (sem T f)) 1 ds h := rfl
theorem sat_direct_parts {f : Nat} {d0 : D} {h : Hh} {Q : D → Hh → Prop} (s : Sat (b_direct_parts (sem T f) [some d0] h) (retK Q)) : Sat (sem T (f + 1) 0 [d0] h) Q := Sat.body rfl s
theorem sat_with_parts {f : Nat} {d0 d1 : D} {h : Hh} {Q : D → Hh → Prop} (s : Sat (b_with_parts (sem T f) [some d0, some d1] h) (retK Q)) : Sat (sem T (f + 1) 1 [d0, d1] h) Q := Sat.body rfl s
theorem sat_within_bounds {f : Nat} {d0 : D} {h : Hh} {Q : D → Hh → Prop} (s : Sat (b_within_bounds (sem T f) [some d0, none, none, none, none, none] h) (retK Q)) : Sat (sem T (f + 1) 2 [d0] h) Q := Sat.body rfl s
theorem sat_replace_variables {f : Nat} {d0 d1 : D} {h : Hh} {Q : D → Hh → Prop} (s : Sat (b_replace_variables (sem T f) [some d0, some d1, none, none] h) (retK Q)) : Sat (sem T (f + 1) 3 [d0, d1] h) Q := Sat.body rfl s
theorem sat_substitute {f : Nat} {d0 d1 : D} {h : Hh} {Q : D → Hh → Prop} (s : Sat (b_substitute (sem T f) [some d0, some d1, none] h) (retK Q)) : Sat (sem T (f + 1) 4 [d0, d1] h) Q := Sat.body rfl s
theorem sat__law_same {f : Nat} {d0 d1 : D} {h : Hh} {Q : D → Hh → Prop} (s : Sat (b__law_same (sem T f) [some d0, some d1, none, none] h) (retK Q)) : Sat (sem T (f + 1) 5 [d0, d1] h) Q := Sat.body rfl s
theorem sat__law_tape {f : Nat} {d0 d1 : D} {h : Hh} {Q : D → Hh → Prop} (s : Sat (b__law_tape (sem T f) [some d0, some d1, none, none, none, none, none, none] h) (retK Q)) : Sat (sem T (f + 1) 6 [d0, d1] h) Q := Sat.body rfl s
theorem sat__law_pick {f : Nat} {d0 d1 d2 : D} {h : Hh} {Q : D → Hh → Prop} (s : Sat (b__law_pick (sem T f) [some d0, some d1, some d2] h) (retK Q)) : Sat (sem T (f + 1) 7 [d0, d1, d2] h) Q := Sat.body rfl s
theorem sat__law_leaf {f : Nat} {d0 d1 d2 : D} {h : Hh} {Q : D → Hh → Prop} (s : Sat (b__law_leaf (sem T f) [some d0, some d1, some d2, none] h) (retK Q)) : Sat (sem T (f + 1) 8 [d0, d1, d2] h) Q := Sat.body rfl s
theorem sat__law_shape {f : Nat} {d0 d1 d2 d3 : D} {h : Hh} {Q : D → Hh → Prop} (s : Sat (b__law_shape (sem T f) [some d0, some d1, some d2, some d3, none, none, none, none, none, none, none, none] h) (retK Q)) : Sat (sem T (f + 1) 9 [d0, d1, d2, d3] h) Q := Sat.body rfl s
theorem sat__law_parts {f : Nat} {d0 : D} {h : Hh} {Q : D → Hh → Prop} (s : Sat (b__law_parts (sem T f) [some d0] h) (retK Q)) : Sat (sem T (f + 1) 10 [d0] h) Q := Sat.body rfl s
theorem sat__law_rebuilt {f : Nat} {d0 d1 : D} {h : Hh} {Q : D → Hh → Prop} (s : Sat (b__law_rebuilt (sem T f) [some d0, some d1] h) (retK Q)) : Sat (sem T (f + 1) 11 [d0, d1] h) Q := Sat.body rfl s
theorem sat__law_apply {f : Nat} {d0 d1 : D} {h : Hh} {Q : D → Hh → Prop} (s : Sat (b__law_apply (sem T f) [some d0, some d1, none, none, none] h) (retK Q)) : Sat (sem T (f + 1) 12 [d0, d1] h) Q := Sat.body rfl s
theorem sat__law_chain {f : Nat} {d0 d1 : D} {h : Hh} {Q : D → Hh → Prop} (s : Sat (b__law_chain (sem T f) [some d0, some d1, none, none] h) (retK Q)) : Sat (sem T (f + 1) 13 [d0, d1] h) Q := Sat.body rfl s
theorem sat__law_flat {f : Nat} {d0 d1 : D} {h : Hh} {Q : D → Hh → Prop} (s : Sat (b__law_flat (sem T f) [some d0, some d1, none, none] h) (retK Q)) : Sat (sem T (f + 1) 14 [d0, d1] h) Q := Sat.body rfl s
theorem sat__law_answer {f : Nat} {d0 d1 : D} {h : Hh} {Q : D → Hh → Prop} (s : Sat (b__law_answer (sem T f) [some d0, some d1] h) (retK Q)) : Sat (sem T (f + 1) 15 [d0, d1] h) Q := Sat.body rfl s
theorem sat__law_edge {f : Nat} {d0 : D} {h : Hh} {Q : D → Hh → Prop} (s : Sat (b__law_edge (sem T f) [some d0, none, none, none, none, none, none, none, none, none] h) (retK Q)) : Sat (sem T (f + 1) 16 [d0] h) Q := Sat.body rfl s
theorem sat_law {f : Nat} {d0 : D} {h : Hh} {Q : D → Hh → Prop} (s : Sat (b_law (sem T f) [some d0, none, none, none, none, none, none, none, none, none] h) (retK Q)) : Sat (sem T (f + 1) 17 [d0] h) Q := Sat.body rfl s
end K11
/-! ## LawA_K11 -/
set_option Elab.async false
set_option linter.all false
set_option maxRecDepth 100000
set_option maxHeartbeats 4000000
set_option autoImplicit false
/-! K11: shapes, substitutions, what matches: in plain terms. -/
namespace K11
open PI
inductive Sh where
  | v (n : Int) | c (s : Int) (ps : List Sh) | t (ps : List Sh) | f (a b : Sh)
mutual
def Sh.enc : Sh → D
  | .v n => .tup [.str s_v, .int n]
  | .c s ps => .tup [.str s_c, .int s, .tup (Sh.encL ps)]
  | .t ps => .tup [.str s_t, .tup (Sh.encL ps)]
  | .f a b => .tup [.str s_f, a.enc, b.enc]
def Sh.encL : List Sh → List D
  | [] => []
  | s :: ss => s.enc :: Sh.encL ss
end
theorem encL_map (ss : List Sh) : Sh.encL ss = ss.map Sh.enc := by
  induction ss with
  | nil => rfl
  | cons s ss ih => rw [Sh.encL, ih, List.map_cons]
def kids : Sh → List Sh
  | .c _ ps => ps
  | .t ps => ps
  | .f a b => [a, b]
  | .v _ => []
mutual
def sz : Sh → Nat
  | .c _ ps => 1 + szL ps
  | .t ps => 1 + szL ps
  | .f a b => 1 + (sz a + (sz b + 0))
  | _ => 1
def szL : List Sh → Nat
  | [] => 0
  | s :: ss => sz s + szL ss
end
mutual
def dp : Sh → Nat
  | .c _ ps => 1 + dpL ps
  | .t ps => 1 + dpL ps
  | .f a b => 1 + max (dp a) (max (dp b) 0)
  | _ => 1
def dpL : List Sh → Nat
  | [] => 0
  | s :: ss => max (dp s) (dpL ss)
end
theorem sz_kids (s : Sh) : sz s = 1 + szL (kids s) := by cases s <;> simp [sz, kids, szL]
theorem dp_kids (s : Sh) : dp s = 1 + dpL (kids s) := by cases s <;> simp [dp, kids, dpL]
theorem szL_map (ss : List Sh) : szL ss = (ss.map sz).sum := by
  induction ss with
  | nil => rfl
  | cons s ss ih => rw [szL, ih, List.map_cons, List.sum_cons]
theorem szL_app (a b : List Sh) : szL (a ++ b) = szL a + szL b := by
  induction a with
  | nil => simp [szL]
  | cons s a ih => rw [List.cons_append, szL, szL, ih]; omega
theorem dpL_le {n : Nat} {ss : List Sh} : dpL ss ≤ n ↔ ∀ s ∈ ss, dp s ≤ n := by
  induction ss with
  | nil => simp [dpL]
  | cons s ss ih => rw [dpL, Nat.max_le, ih]; simp
theorem szL_mem {ss : List Sh} {s : Sh} (h : s ∈ ss) : sz s ≤ szL ss := by
  induction ss with
  | nil => cases h
  | cons q ss ih =>
    rw [szL]
    rcases List.mem_cons.mp h with rfl | h
    · omega
    · have := ih h
      omega
theorem sz_pos (s : Sh) : 1 ≤ sz s := by rw [sz_kids]; omega
theorem dp_pos (s : Sh) : 1 ≤ dp s := by rw [dp_kids]; omega
theorem len_szL (ss : List Sh) : ss.length ≤ szL ss := by
  induction ss with
  | nil => exact Nat.zero_le _
  | cons s ss ih => rw [szL, List.length_cons]; have := sz_pos s; omega
theorem dp_kid {s q : Sh} (h : q ∈ kids s) : dp q + 1 ≤ dp s := by
  have := dpL_le.mp (Nat.le_refl (dpL (kids s))) q h
  rw [dp_kids s]
  omega
theorem sz_kid {s q : Sh} (h : q ∈ kids s) : sz q < sz s := by
  have := szL_mem h
  rw [sz_kids s]
  omega
theorem Sh.ind {P : Sh → Prop} (h : ∀ s, (∀ q ∈ kids s, P q) → P s) : ∀ s, P s := by
  have : ∀ n s, sz s ≤ n → P s := by
    intro n
    induction n with
    | zero => intro s hs; have := sz_pos s; omega
    | succ n ih => exact fun s hs => h s fun q hq => ih q (by have := sz_kid hq; omega)
  exact fun s => this _ s (Nat.le_refl _)
/-- a node's head -/
def hd : Sh → Nat × Int
  | .v n => (0, n)
  | .c s _ => (1, s)
  | .t _ => (2, 0)
  | .f _ _ => (3, 0)
theorem ext_hd {a b : Sh} (h : hd a = hd b) (k : kids a = kids b) : a = b := by
  cases a <;> cases b <;> simp_all [hd, kids]
def isV : Sh → Bool
  | .v _ => true
  | _ => false
theorem isV_of {s : Sh} (h : isV s = true) : ∃ n, s = .v n := by
  cases s with
  | v n => exact ⟨n, rfl⟩
  | _ => cases h
/-! ### substitutions -/
mutual
def app (σ : Int → Sh) : Sh → Sh
  | .v n => σ n
  | .c s ps => .c s (appL σ ps)
  | .t ps => .t (appL σ ps)
  | .f a b => .f (app σ a) (app σ b)
def appL (σ : Int → Sh) : List Sh → List Sh
  | [] => []
  | s :: ss => app σ s :: appL σ ss
end
theorem appL_map (σ : Int → Sh) (ss : List Sh) : appL σ ss = ss.map (app σ) := by
  induction ss with
  | nil => rfl
  | cons s ss ih => rw [appL, ih, List.map_cons]
theorem hd_app {σ : Int → Sh} {s : Sh} (h : isV s = false) : hd (app σ s) = hd s := by cases s <;> first | (cases h; done) | rfl
theorem kids_app {σ : Int → Sh} {s : Sh} (h : isV s = false) : kids (app σ s) = (kids s).map (app σ) := by cases s <;> first | (cases h; done) | simp [app, kids, appL_map]
theorem app_eq {σ : Int → Sh} {s b : Sh} (h : isV s = false) : app σ s = b ↔ hd s = hd b ∧ (kids s).map (app σ) = kids b := by
  rw [← kids_app (σ := σ) h, ← hd_app (σ := σ) h]
  exact ⟨fun e => ⟨congrArg hd e, congrArg kids e⟩, fun e => ext_hd e.1 e.2⟩
/-! every variable has p, every stamp q -/
mutual
def All (p q : Int → Prop) : Sh → Prop
  | .v n => p n
  | .c s ps => q s ∧ AllL p q ps
  | .t ps => AllL p q ps
  | .f a b => All p q a ∧ All p q b
def AllL (p q : Int → Prop) : List Sh → Prop
  | [] => True
  | s :: ss => All p q s ∧ AllL p q ss
end
theorem AllL_iff {p q : Int → Prop} {ss : List Sh} : AllL p q ss ↔ ∀ s ∈ ss, All p q s := by
  induction ss with
  | nil => simp [AllL]
  | cons s ss ih => rw [AllL, ih]; simp
theorem All.k {p q : Int → Prop} {s : Sh} (h : All p q s) : ∀ x ∈ kids s, All p q x := by
  cases s with
  | v n => intro x hx; cases hx
  | c s ps => exact AllL_iff.mp h.2
  | t ps => exact AllL_iff.mp h
  | f a b =>
    intro x hx
    simp only [kids, List.mem_cons, List.not_mem_nil, or_false] at hx
    rcases hx with rfl | rfl
    · exact h.1
    · exact h.2
def hdok (p q : Int → Prop) : Sh → Prop
  | .v n => p n
  | .c s _ => q s
  | _ => True
theorem All.hd {p q : Int → Prop} {s : Sh} (h : All p q s) : hdok p q s := by
  cases s with
  | v n => exact h
  | c s ps => exact h.1
  | t ps => trivial
  | f a b => trivial
theorem All.mk {p q : Int → Prop} {s : Sh} (h : hdok p q s) (k : ∀ x ∈ kids s, All p q x) : All p q s := by
  cases s with
  | v n => exact h
  | c s ps => exact ⟨h, AllL_iff.mpr k⟩
  | t ps => exact AllL_iff.mpr k
  | f a b => exact ⟨k a (by simp [kids]), k b (by simp [kids])⟩
theorem All.imp {p q p' q' : Int → Prop} (hp : ∀ n, p n → p' n) (hq : ∀ n, q n → q' n) : ∀ {s : Sh}, All p q s → All p' q' s := by
  intro s
  induction s using Sh.ind with
  | h s ih =>
    intro h
    refine .mk ?_ fun x hx => ih x hx (h.k x hx)
    have := h.hd
    cases s with
    | v n => exact hp _ this
    | c s ps => exact hq _ this
    | t ps => trivial
    | f a b => trivial
theorem All.app {p q p' : Int → Prop} {σ : Int → Sh} (hσ : ∀ n, p n → All p' q (σ n)) : ∀ {s : Sh}, All p q s → All p' q (app σ s) := by
  intro s
  induction s using Sh.ind with
  | h s ih =>
    intro h
    cases hv : isV s with
    | true =>
      obtain ⟨n, rfl⟩ := isV_of hv
      exact hσ n h
    | false =>
      refine .mk ?_ fun x hx => ?_
      · have := h.hd
        cases s with
        | v n => cases hv
        | c s ps => exact this
        | t ps => trivial
        | f a b => trivial
      · rw [kids_app hv] at hx
        obtain ⟨y, hy, rfl⟩ := List.mem_map.mp hx
        exact ih y hy (h.k y hy)
theorem app_congr {p q : Int → Prop} {σ τ : Int → Sh} (e : ∀ n, p n → σ n = τ n) : ∀ {s : Sh}, All p q s → app σ s = app τ s := by
  intro s
  induction s using Sh.ind with
  | h s ih =>
    intro h
    cases hv : isV s with
    | true =>
      obtain ⟨n, rfl⟩ := isV_of hv
      exact e n h
    | false =>
      refine ext_hd (by rw [hd_app hv, hd_app hv]) ?_
      rw [kids_app hv, kids_app hv]
      exact List.map_congr_left fun x hx => ih x hx (h.k x hx)
theorem app_comp {σ τ : Int → Sh} : ∀ s : Sh, app σ (app τ s) = app (fun n => app σ (τ n)) s := by
  intro s
  induction s using Sh.ind with
  | h s ih =>
    cases hv : isV s with
    | true =>
      obtain ⟨n, rfl⟩ := isV_of hv
      rfl
    | false =>
      have h2 : isV (app τ s) = false := by cases s <;> first | (cases hv; done) | rfl
      refine ext_hd (by rw [hd_app h2, hd_app hv, hd_app hv]) ?_
      rw [kids_app h2, kids_app hv, kids_app hv, List.map_map]
      exact List.map_congr_left fun x hx => ih x hx
theorem app_id : ∀ s : Sh, app .v s = s := by
  intro s
  induction s using Sh.ind with
  | h s ih =>
    cases hv : isV s with
    | true =>
      obtain ⟨n, rfl⟩ := isV_of hv
      rfl
    | false =>
      refine ext_hd (hd_app hv) ?_
      rw [kids_app hv]
      have := List.map_congr_left (f := app .v) (g := id) fun x hx => ih x hx
      rw [this, List.map_id]
theorem sz_app {b : Nat} {p q : Int → Prop} {σ : Int → Sh} (hb : ∀ n, p n → sz (σ n) ≤ b) (b1 : 1 ≤ b) : ∀ {s : Sh}, All p q s → sz (app σ s) ≤ sz s * b := by
  intro s
  induction s using Sh.ind with
  | h s ih =>
    intro h
    cases hv : isV s with
    | true =>
      obtain ⟨n, rfl⟩ := isV_of hv
      have := hb n h
      simpa [sz, app] using this
    | false =>
      rw [sz_kids, sz_kids s, kids_app hv, Nat.add_mul, Nat.one_mul]
      have : ∀ l : List Sh, (∀ x ∈ l, x ∈ kids s) → szL (l.map (app σ)) ≤ szL l * b := by
        intro l
        induction l with
        | nil => simp [szL]
        | cons x l ih2 =>
          intro hl
          have h1 := ih x (hl x (by simp)) (h.k x (hl x (by simp)))
          have h2 := ih2 fun y hy => hl y (by simp [hy])
          rw [List.map_cons, szL, szL, Nat.add_mul]
          omega
      have := this (kids s) fun x hx => hx
      omega
theorem dp_app {b : Nat} {p q : Int → Prop} {σ : Int → Sh} (hb : ∀ n, p n → dp (σ n) ≤ b + 1) : ∀ {s : Sh}, All p q s → dp (app σ s) ≤ dp s + b := by
  intro s
  induction s using Sh.ind with
  | h s ih =>
    intro h
    cases hv : isV s with
    | true =>
      obtain ⟨n, rfl⟩ := isV_of hv
      have := hb n h
      simp only [dp, app]
      omega
    | false =>
      rw [dp_kids, kids_app hv]
      have : dpL ((kids s).map (app σ)) ≤ dpL (kids s) + b := dpL_le.mpr fun x hx => by
        obtain ⟨y, hy, rfl⟩ := List.mem_map.mp hx
        have h1 := ih y hy (h.k y hy)
        have h2 := dpL_le.mp (Nat.le_refl (dpL (kids s))) y hy
        omega
      have := dp_kids s
      omega
/-! ### == of shapes -/
noncomputable instance : DecidableEq Sh := fun a b => Classical.propDecidable _
theorem decB {p q : Prop} {i : Decidable p} {j : Decidable q} (h : p ↔ q) : @decide p i = @decide q j := decide_eq_decide.mpr h
mutual
theorem eqv_enc : ∀ a b : Sh, D.eqv a.enc b.enc = decide (a = b)
  | .v n, b => by
    cases b with
    | v m =>
      simp only [Sh.enc, D.eqv, D.eqvL, Bool.and_true, beq_self_eq_true, Bool.true_and]
      rw [beq_dec]
      exact decB ⟨fun h => by rw [h], fun h => by cases h; rfl⟩
    | _ => exact (decide_eq_false fun h => by cases h).symm
  | .c s ps, b => by
    cases b with
    | c s' ps' =>
      simp only [Sh.enc, D.eqv, D.eqvL, Bool.and_true, beq_self_eq_true, Bool.true_and]
      rw [eqvL_enc ps ps', beq_dec, Bool.eq_iff_iff, Bool.and_eq_true, decide_eq_true_eq, decide_eq_true_eq, decide_eq_true_eq]
      exact ⟨fun ⟨h, k⟩ => by rw [h, k], fun h => by cases h; exact ⟨rfl, rfl⟩⟩
    | _ => exact (decide_eq_false fun h => by cases h).symm
  | .t ps, b => by
    cases b with
    | t ps' =>
      simp only [Sh.enc, D.eqv, D.eqvL, Bool.and_true, beq_self_eq_true, Bool.true_and]
      rw [eqvL_enc ps ps']
      exact decB ⟨fun h => by rw [h], fun h => by cases h; rfl⟩
    | _ => exact (decide_eq_false fun h => by cases h).symm
  | .f a b, q => by
    cases q with
    | f a' b' =>
      simp only [Sh.enc, D.eqv, D.eqvL, Bool.and_true, beq_self_eq_true, Bool.true_and]
      rw [eqv_enc a a', eqv_enc b b', Bool.eq_iff_iff, Bool.and_eq_true, decide_eq_true_eq, decide_eq_true_eq, decide_eq_true_eq]
      exact ⟨fun ⟨h, k⟩ => by rw [h, k], fun h => by cases h; exact ⟨rfl, rfl⟩⟩
    | _ => exact (decide_eq_false fun h => by cases h).symm
theorem eqvL_enc : ∀ a b : List Sh, D.eqvL (Sh.encL a) (Sh.encL b) = decide (a = b)
  | [], b => by
    cases b with
    | nil => exact (decide_eq_true rfl).symm
    | cons y ys => exact (decide_eq_false fun h => by cases h).symm
  | x :: xs, b => by
    cases b with
    | nil => exact (decide_eq_false fun h => by cases h).symm
    | cons y ys =>
      simp only [Sh.encL, D.eqvL]
      rw [eqv_enc x y, eqvL_enc xs ys, Bool.eq_iff_iff, Bool.and_eq_true, decide_eq_true_eq, decide_eq_true_eq, decide_eq_true_eq]
      exact ⟨fun ⟨h, k⟩ => by rw [h, k], fun h => by cases h; exact ⟨rfl, rfl⟩⟩
end
mutual
theorem flat_enc : ∀ a : Sh, D.flat a.enc = true ∧ D.deep a.enc ≤ 2 * dp a
  | .v n => by simp [Sh.enc, D.flat, D.flatL, D.deep, D.deepL, dp, s_v]
  | .c s ps => by
    have := flatL_enc ps
    simp [Sh.enc, D.flat, D.flatL, D.deep, D.deepL, dp, s_c, this.1]
    omega
  | .t ps => by
    have := flatL_enc ps
    simp [Sh.enc, D.flat, D.flatL, D.deep, D.deepL, dp, s_t, this.1]
    omega
  | .f a b => by
    have h1 := flat_enc a
    have h2 := flat_enc b
    simp [Sh.enc, D.flat, D.flatL, D.deep, D.deepL, dp, s_f, h1.1, h2.1]
    omega
theorem flatL_enc : ∀ a : List Sh, D.flatL (Sh.encL a) = true ∧ D.deepL (Sh.encL a) ≤ 2 * dpL a
  | [] => by simp [Sh.encL, D.flatL, D.deepL, dpL]
  | x :: xs => by
    have h1 := flat_enc x
    have h2 := flatL_enc xs
    simp [Sh.encL, D.flatL, D.deepL, dpL, h1.1, h2.1]
    omega
end
theorem fit_enc {a : Sh} (h : dp a ≤ 28) : a.enc.fit = true := by
  have := flat_enc a
  unfold D.fit
  rw [this.1, decide_eq_true (by omega)]
  rfl
theorem enc_tup (a : Sh) : ∃ xs, a.enc = .tup xs := by cases a <;> exact ⟨_, rfl⟩
theorem neSh {a b : Sh} {h : Hh} {Q : D → Hh → Prop} (da : dp a ≤ 28) (db : dp b ≤ 28) (q : Q (.bl (!decide (a = b))) h) : Sat (cNe a.enc b.enc h) Q := by
  obtain ⟨xs, ex⟩ := enc_tup a
  obtain ⟨ys, ey⟩ := enc_tup b
  have e := eqv_enc a b
  have fa := fit_enc da
  have fb := fit_enc db
  rw [ex] at fa e ⊢
  rw [ey] at fb e ⊢
  refine Sat.neT fa fb ?_
  rw [show D.eqvL xs ys = decide (a = b) from e]
  exact q
theorem eqSh {a b : Sh} {h : Hh} {Q : D → Hh → Prop} (da : dp a ≤ 28) (db : dp b ≤ 28) (q : Q (.bl (decide (a = b))) h) : Sat (cEq a.enc b.enc h) Q := by
  obtain ⟨xs, ex⟩ := enc_tup a
  obtain ⟨ys, ey⟩ := enc_tup b
  have e := eqv_enc a b
  have fa := fit_enc da
  have fb := fit_enc db
  rw [ex] at fa e ⊢
  rw [ey] at fb e ⊢
  refine Sat.eqT fa fb ?_
  rw [show D.eqvL xs ys = decide (a = b) from e]
  exact q
end K11
/-! ## LawB_K11 -/
set_option Elab.async false
set_option linter.all false
set_option maxRecDepth 100000
set_option maxHeartbeats 4000000
set_option autoImplicit false
/-! K11: variables, tables. -/
namespace K11
open PI
mutual
def vr : Sh → List Int → List Int
  | .v n, fs => if n ∈ fs then fs else fs ++ [n]
  | .c _ ps, fs => vrL ps fs
  | .t ps, fs => vrL ps fs
  | .f a b, fs => vr b (vr a fs)
def vrL : List Sh → List Int → List Int
  | [], fs => fs
  | s :: ss, fs => vrL ss (vr s fs)
end
theorem vrL_app (a b : List Sh) (fs : List Int) : vrL (a ++ b) fs = vrL b (vrL a fs) := by
  induction a generalizing fs with
  | nil => rfl
  | cons s a ih => rw [List.cons_append, vrL, vrL, ih]
theorem vr_kids {s : Sh} (h : isV s = false) (fs : List Int) : vr s fs = vrL (kids s) fs := by
  cases s with
  | v n => cases h
  | _ => simp [vr, kids, vrL]
/-- what holds through a list -/
theorem vrL_ind {R : List Int → List Int → Prop} (r0 : ∀ fs, R fs fs) (r2 : ∀ a b c, R a b → R b c → R a c) : ∀ {ss : List Sh}, (∀ s ∈ ss, ∀ fs, R fs (vr s fs)) → ∀ fs, R fs (vrL ss fs)
  | [], _, fs => r0 fs
  | s :: ss, h, fs => r2 _ _ _ (h s (by simp) fs) (vrL_ind r0 r2 (fun q hq => h q (by simp [hq])) _)
theorem vr_sub (s : Sh) : ∀ fs n, n ∈ fs → n ∈ vr s fs := by
  induction s using Sh.ind with
  | h s ih =>
    cases hv : isV s with
    | true =>
      obtain ⟨m, rfl⟩ := isV_of hv
      intro fs n hn
      rw [vr]
      split
      · exact hn
      · simp [hn]
    | false =>
      intro fs
      rw [vr_kids hv]
      exact vrL_ind (R := fun a b => ∀ n, n ∈ a → n ∈ b) (fun _ _ h => h) (fun a b c h1 h2 n hn => h2 n (h1 n hn)) (fun q hq fs => ih q hq fs) fs
theorem vrL_sub (ss : List Sh) : ∀ fs n, n ∈ fs → n ∈ vrL ss fs :=
  vrL_ind (R := fun a b => ∀ n, n ∈ a → n ∈ b) (fun _ _ h => h) (fun a b c h1 h2 n hn => h2 n (h1 n hn)) (fun q hq fs => vr_sub q fs)
theorem vr_nd (s : Sh) : ∀ fs, fs.Nodup → (vr s fs).Nodup := by
  induction s using Sh.ind with
  | h s ih =>
    cases hv : isV s with
    | true =>
      obtain ⟨m, rfl⟩ := isV_of hv
      intro fs hn
      rw [vr]
      split
      · exact hn
      · rename_i c
        rw [List.nodup_append]
        exact ⟨hn, by simp, fun a ha b hb => by rw [List.mem_singleton.mp hb]; exact fun e => c (e ▸ ha)⟩
    | false =>
      intro fs
      rw [vr_kids hv]
      exact vrL_ind (R := fun a b => a.Nodup → b.Nodup) (fun _ h => h) (fun a b c h1 h2 n => h2 (h1 n)) (fun q hq fs => ih q hq fs) fs
theorem vr_in {p q : Int → Prop} {s : Sh} : All p q s → ∀ fs n, n ∈ vr s fs → n ∈ fs ∨ p n := by
  induction s using Sh.ind with
  | h s ih =>
    intro h
    cases hv : isV s with
    | true =>
      obtain ⟨m, rfl⟩ := isV_of hv
      intro fs n hn
      rw [vr] at hn
      split at hn
      · exact .inl hn
      · rcases List.mem_append.mp hn with z | z
        · exact .inl z
        · rw [List.mem_singleton.mp z]; exact .inr h
    | false =>
      intro fs
      rw [vr_kids hv]
      refine vrL_ind (R := fun a b => ∀ n, n ∈ b → n ∈ a ∨ p n) (fun _ _ h => .inl h) (fun a b c h1 h2 n hn => ?_) (fun q hq fs => ih q hq (h.k q hq) fs) fs
      rcases h2 n hn with z | z
      · exact h1 n z
      · exact .inr z
theorem vr_all {q : Int → Prop} {s : Sh} : All (fun _ => True) q s → ∀ fs, All (fun n => n ∈ vr s fs) q s := by
  induction s using Sh.ind with
  | h s ih =>
    intro h fs
    cases hv : isV s with
    | true =>
      obtain ⟨m, rfl⟩ := isV_of hv
      show m ∈ vr (.v m) fs
      rw [vr]
      split
      · assumption
      · simp
    | false =>
      refine .mk ?_ fun x hx => ?_
      · have := h.hd
        cases s with
        | v n => cases hv
        | c s ps => exact this
        | t ps => trivial
        | f a b => trivial
      · rw [vr_kids hv]
        obtain ⟨l, r, e⟩ := List.append_of_mem hx
        rw [e, vrL_app, vrL]
        exact (ih x hx (h.k x hx) (vrL l fs)).imp (fun n hn => vrL_sub r _ n hn) fun _ h => h
theorem vr_map {P q : Int → Prop} {σ : Int → Sh} {g : Int → Int} (hσ : ∀ n, P n → σ n = .v (g n)) (inj : ∀ a b, P a → P b → g a = g b → a = b) {s : Sh} : All P q s → ∀ fs, (∀ n ∈ fs, P n) → vr (app σ s) (fs.map g) = (vr s fs).map g ∧ ∀ n ∈ vr s fs, P n := by
  induction s using Sh.ind with
  | h s ih =>
    intro h fs hfs
    refine ⟨?_, fun n hn => ?_⟩
    · cases hv : isV s with
      | true =>
        obtain ⟨m, rfl⟩ := isV_of hv
        have pm : P m := h
        rw [app, hσ m pm, vr, vr]
        by_cases c : m ∈ fs
        · rw [if_pos c, if_pos (List.mem_map_of_mem c)]
        · rw [if_neg c, if_neg, List.map_append, List.map_singleton]
          intro z
          obtain ⟨x, hx, e⟩ := List.mem_map.mp z
          exact c (inj _ _ (hfs x hx) pm e ▸ hx)
      | false =>
        have h2 : isV (app σ s) = false := by cases s <;> first | (cases hv; done) | rfl
        rw [vr_kids h2, vr_kids hv, kids_app hv]
        have : ∀ (l : List Sh) (fs : List Int), (∀ x ∈ l, x ∈ kids s) → (∀ n ∈ fs, P n) → vrL (l.map (app σ)) (fs.map g) = (vrL l fs).map g := by
          intro l
          induction l with
          | nil => intro fs _ _; rfl
          | cons x l ih2 =>
            intro fs hl hf
            obtain ⟨e1, e2⟩ := ih x (hl x (by simp)) (h.k x (hl x (by simp))) fs hf
            rw [List.map_cons, vrL, vrL, e1]
            exact ih2 _ (fun y hy => hl y (by simp [hy])) e2
        exact this _ _ (fun x hx => hx) hfs
    · rcases vr_in h fs n hn with z | z
      · exact hfs n z
      · exact z
/-! ### tables of variables -/
def look : List (Int × Sh) → Int → Option Sh
  | [], _ => none
  | (k, s) :: r, n => if k = n then some s else look r n
def sb (ps : List (Int × Sh)) (n : Int) : Sh := (look ps n).getD (.v n)
theorem look_none {ps : List (Int × Sh)} {n : Int} (h : n ∉ ps.map (·.1)) : look ps n = none := by
  induction ps with
  | nil => rfl
  | cons p r ih =>
    obtain ⟨k, s⟩ := p
    rw [List.map_cons, List.mem_cons] at h
    rw [look, if_neg (fun e => h (.inl e.symm)), ih fun z => h (.inr z)]
theorem look_some {ps : List (Int × Sh)} {n : Int} (h : n ∈ ps.map (·.1)) : ∃ s, look ps n = some s ∧ (n, s) ∈ ps := by
  induction ps with
  | nil => cases h
  | cons p r ih =>
    obtain ⟨k, s⟩ := p
    rw [look]
    by_cases c : k = n
    · rw [if_pos c]
      exact ⟨s, rfl, by simp [c]⟩
    · rw [if_neg c]
      rw [List.map_cons, List.mem_cons] at h
      rcases h with h | h
      · exact absurd h.symm c
      · obtain ⟨q, h1, h2⟩ := ih h
        exact ⟨q, h1, by simp [h2]⟩
theorem look_app {ps : List (Int × Sh)} {n m : Int} {s : Sh} (h : m ∉ ps.map (·.1)) : look (ps ++ [(m, s)]) n = if n = m then some s else look ps n := by
  induction ps with
  | nil =>
    simp only [List.nil_append, look]
    by_cases c : m = n
    · rw [if_pos c, if_pos c.symm]
    · rw [if_neg c, if_neg (fun e => c e.symm)]
  | cons p r ih =>
    obtain ⟨k, s'⟩ := p
    rw [List.map_cons, List.mem_cons] at h
    rw [List.cons_append, look, look, ih fun z => h (.inr z)]
    by_cases c : k = n
    · rw [if_pos c, if_pos c, if_neg]
      intro e
      exact h (.inl (by rw [← e, ← c]))
    · rw [if_neg c, if_neg c]
def prs : Nat → List Int → List (Int × Sh)
  | _, [] => []
  | k, n :: ns => (n, .v (k : Nat)) :: prs (k + 1) ns
theorem prs_len : ∀ (k : Nat) (ns : List Int), (prs k ns).length = ns.length
  | _, [] => rfl
  | k, n :: ns => by rw [prs, List.length_cons, List.length_cons, prs_len]
theorem prs_app : ∀ (k : Nat) (ns : List Int) (n : Int), prs k (ns ++ [n]) = prs k ns ++ [(n, .v ((k + ns.length : Nat) : Int))]
  | k, [], n => rfl
  | k, m :: ns, n => by
    rw [List.cons_append, prs, prs, prs_app, List.cons_append, List.length_cons]
    congr 5
    omega
/-- a number's new name -/
def gi (k : Nat) (ns : List Int) (n : Int) : Int := if n ∈ ns then ((k + ns.idxOf n : Nat) : Int) else n
theorem sb_prs : ∀ (k : Nat) (ns : List Int) (n : Int), sb (prs k ns) n = .v (gi k ns n)
  | k, [], n => rfl
  | k, m :: ns, n => by
    have ih := sb_prs (k + 1) ns n
    unfold sb at ih ⊢
    rw [prs, look]
    by_cases c : m = n
    · subst c
      rw [if_pos rfl]
      simp [gi]
    · rw [if_neg c, ih]
      unfold gi
      have c' : ¬ n = m := fun e => c e.symm
      by_cases d : n ∈ ns
      · rw [if_pos d, if_pos (by simp [d]), List.idxOf_cons, show (m == n) = false by simp [c]]
        simp only [cond_false]
        congr 2
        omega
      · rw [if_neg d, if_neg (by simp [c', d])]
end K11
/-! ## LawC_K11 -/
set_option Elab.async false
set_option linter.all false
set_option maxRecDepth 100000
set_option maxHeartbeats 4000000
set_option autoImplicit false
/-! K11: substitution: the walks. -/
namespace K11
open PI PI.GC
local macro_rules | `(tactic| walk_at "pi") => `(tactic| (
  first
  | (with_reducible refine PI.red ?_)
  | ((with_reducible show PI.Sat (PI.dVar _ _ _) _); refine Sat.var rfl ?_)
  | ((with_reducible show PI.Sat (PI.sAug _ _ _ _ _) _); refine Sat.aug rfl ?_)
  | ((with_reducible show PI.npK _ _ _); refine npK.mk rfl ?_)
  | ((with_reducible show PI.szK _ _); refine szK.mk (by simp only [List.length_cons, List.length_nil]; decide) ?_)
  | ((with_reducible show PI.isaK _ _ _ _); refine isaK.mk rfl ?_)
  | ((with_reducible show PI.ifK _ _ _); first | (refine ifK.t (by rfl) ?_) | (refine ifK.f (by rfl) ?_))
  | ((with_reducible show PI.Sat (PI.gTp _ _ _ _ _) _); refine Sat.gTp rfl ?_)
  | ((with_reducible show PI.Sat (PI.cIsB _ _ _) _); refine Sat.isB rfl ?_)
  | ((with_reducible show PI.Sat (PI.cNotB _ _ _) _); refine Sat.notB rfl ?_)
  | ((with_reducible show PI.Sat (PI.cIn _ (PI.D.tup _) _) _); refine Sat.inT rfl ?_)
  | ((with_reducible show PI.Sat (PI.cNin _ (PI.D.tup _) _) _); refine Sat.ninT rfl ?_)
  | ((with_reducible show PI.Sat (PI.cIsN _ _) _); refine Sat.isN rfl ?_)
  | ((with_reducible show PI.Sat (PI.cNotN _ _) _); refine Sat.notN rfl ?_)
  | ((with_reducible show PI.Sat (PI.oPow _ _ _) _); refine Sat.powI (by decide) ?_)))
section
variable {h : Hh} {f : Nat}
theorem dget2 {e : En} {a b c : Den} {Q : D → Hh → Prop} (s : Sat (a e h) fun x h1 => isDk h1 x = true ∧ Sat (b e h1) fun y h2 => Sat (c e h2) fun z h3 => dkK h3 x y fun _ kvs k => Q ((valK kvs k).getD z) h3) : Sat (dGet2 a b c e h) Q := .bind (s.mono fun x h1 ⟨d, s⟩ => by
  rw [if_pos d]
  exact .bind (s.mono fun y h2 s => .bind (s.mono fun z h3 ⟨n, kvs, k, ex, ey, e, q⟩ => by
    rw [dk_get ex ey e]
    exact .ok q)))
theorem Sat.max2 {a b : Int} {Q : D → Hh → Prop} (q : Q (.int (if b > a then b else a)) h) : Sat (bMax2 [.int a, .int b] h) Q := .ok q
theorem nv_enc {s : Sh} (hv : isV s = false) : ∃ tg ds, s.enc = .tup (.str tg :: ds) ∧ decide (tg = s_v) = false := by
  cases s with
  | v n => cases hv
  | c _ _ => exact ⟨_, _, rfl, by decide⟩
  | t _ => exact ⟨_, _, rfl, by decide⟩
  | f _ _ => exact ⟨_, _, rfl, by decide⟩
theorem parts_w {s : Sh} : Sat (sem T (f + 1) 0 [s.enc] h) fun r h' => h' = h ∧ r = .tup (Sh.encL (kids s)) := by
  refine sat_direct_parts ?_
  unfold b_direct_parts
  cases s <;> (simp only [Sh.enc]; (repeat walk_at "pi"); exact ⟨rfl, rfl⟩)
theorem lparts_w {s : Sh} : Sat (sem T (f + 1) 10 [s.enc] h) fun r h' => h' = h ∧ r = .tup (Sh.encL (kids s)) := by
  refine sat__law_parts ?_
  unfold b__law_parts
  cases s <;> (simp only [Sh.enc]; (repeat walk_at "pi"); exact ⟨rfl, rfl⟩)
theorem with_w {s : Sh} {σ : Int → Sh} (hv : isV s = false) : Sat (sem T (f + 1) 1 [s.enc, .tup (Sh.encL ((kids s).map (app σ)))] h) fun r h' => h' = h ∧ r = (app σ s).enc := by
  refine sat_with_parts ?_
  unfold b_with_parts
  cases s with
  | v n => cases hv
  | c s ps => simp only [Sh.enc, app, kids, appL_map]; repeat walk_at "pi"
              exact ⟨rfl, rfl⟩
  | t ps => simp only [Sh.enc, app, kids, appL_map]; repeat walk_at "pi"
            exact ⟨rfl, rfl⟩
  | f a b => simp only [Sh.enc, app, kids, List.map_cons, List.map_nil, Sh.encL]; repeat walk_at "pi"
             exact ⟨rfl, rfl⟩
theorem rebuilt_w {s : Sh} {σ : Int → Sh} {n : Nat} (hv : isV s = false) (e : h[n]? = some (.lst (Sh.encL ((kids s).map (app σ))))) : Sat (sem T (f + 1) 11 [s.enc, .ref n] h) fun r h' => h' = h ∧ r = (app σ s).enc := by
  refine sat__law_rebuilt ?_
  unfold b__law_rebuilt
  cases s with
  | v n => cases hv
  | c s ps =>
    simp only [Sh.enc, app, kids, appL_map] at e ⊢
    repeat walk_at "pi"
    refine Sat.tupL e ?_
    repeat walk_at "pi"
    exact ⟨rfl, rfl⟩
  | t ps =>
    simp only [Sh.enc, app, kids, appL_map] at e ⊢
    repeat walk_at "pi"
    refine Sat.tupL e ?_
    repeat walk_at "pi"
    exact ⟨rfl, rfl⟩
  | f a b =>
    simp only [Sh.enc, app, kids, List.map_cons, List.map_nil, Sh.encL] at e ⊢
    repeat walk_at "pi"
    refine Sat.ixL (z := (app σ a).enc) e (atIx_nat (i := 0) rfl) ?_
    repeat walk_at "pi"
    refine Sat.ixL (z := (app σ b).enc) e (atIx_nat (i := 1) rfl) ?_
    repeat walk_at "pi"
    exact ⟨rfl, rfl⟩
/-! ### the program's substitution -/
def kvD (ps : List (Int × Sh)) : List (Ky × D) := ps.map fun p => (.i p.1, p.2.enc)
theorem val_kvD (ps : List (Int × Sh)) (n : Int) : valK (kvD ps) (.i n) = (look ps n).map Sh.enc := by
  induction ps with
  | nil => rfl
  | cons p ps ih =>
    obtain ⟨k, s⟩ := p
    show valK ((.i k, s.enc) :: kvD ps) (.i n) = _
    rw [valK, look]
    by_cases c : k = n
    · rw [if_pos (by rw [c]), if_pos c]
      rfl
    · rw [if_neg (fun e => c (by injection e)), if_neg c]
      exact ih
theorem set_kvD {ps : List (Int × Sh)} {n : Int} {s : Sh} (h : n ∉ ps.map (·.1)) : setK (kvD ps) (.i n) s.enc = kvD (ps ++ [(n, s)]) := by
  unfold setK
  rw [if_neg]
  · simp [kvD]
  · intro z
    obtain ⟨x, hx, e⟩ := List.any_eq_true.mp z
    obtain ⟨p, hp, rfl⟩ := List.mem_map.mp hx
    have e := of_decide_eq_true e
    injection e with e
    exact h (e ▸ List.mem_map_of_mem hp)
theorem repl_w : ∀ (d : Nat) {f : Nat} {h : Hh} {s : Sh} {M : Nat} {ps : List (Int × Sh)}, dp s ≤ d → h[M]? = some (.dk (kvD ps)) → sz s ≤ 10000 → Sat (sem T (f + d + 2) 3 [s.enc, .ref M] h) fun r h' => h' = h ∧ r = (app (sb ps) s).enc := by
  intro d
  induction d with
  | zero => intro f h s M ps hd; have := dp_pos s; omega
  | succ d ih =>
    intro f h s M ps hd eM hz
    refine sat_replace_variables (f := f + d + 2) ?_
    unfold b_replace_variables
    cases hv : isV s with
    | true =>
      obtain ⟨n, rfl⟩ := isV_of hv
      simp only [Sh.enc]
      repeat walk_at "pi"
      refine dget2 ?_
      repeat walk_at "pi"
      refine ⟨by simp only [isDk, dkAt, eM]; rfl, ?_⟩
      repeat walk_at "pi"
      refine dkK.mk eM ?_
      rw [val_kvD]
      repeat walk_at "pi"
      refine ⟨rfl, ?_⟩
      rw [app, sb]
      cases look ps n <;> rfl
    | false =>
      obtain ⟨tg, ds, etg, htg⟩ := nv_enc hv
      have pw := parts_w (h := h) (f := f + d + 1) (s := s)
      have ww := with_w (h := h) (f := f + d + 1) (σ := sb ps) hv
      have szk := sz_kids s
      rw [etg] at pw ww ⊢
      repeat walk_at "pi"
      rw [htg]
      repeat walk_at "pi"
      refine pw.mono fun r h3 ⟨eh, er⟩ => ?_
      subst eh er
      repeat walk_at "pi"
      refine Sat.compIx (fun i acc h' => h' = h3 ∧ acc = Sh.encL (((kids s).take i).map (app (sb ps)))) ⟨rfl, rfl⟩ (fun _ _ _ _ => rfl) (fun i x acc h4 hd2 ⟨eh, ea⟩ => ?_) fun acc h4 ⟨eh, ea⟩ => ?_
      · subst eh
        rw [Wk.items, encL_map, List.getElem?_map] at hd2
        cases gk : (kids s)[i]? with
        | none => rw [gk] at hd2; cases hd2
        | some k =>
          rw [gk] at hd2
          cases hd2
          have hi := (List.getElem?_eq_some_iff.mp gk).1
          have hk := List.mem_of_getElem? gk
          have dk := dp_kid hk
          have zk := sz_kid hk
          have kl := len_szL (kids s)
          repeat walk_at "pi"
          refine (ih (f := f) (by omega) eM (by omega)).mono fun r h5 ⟨eh, er⟩ => ?_
          subst eh er
          refine ⟨?_, rfl, ?_⟩
          · rw [ea, encL_map, List.length_map, List.length_map, List.length_take]
            unfold SL
            omega
          · rw [ea, encL_map, encL_map, List.take_succ, gk]
            simp
      · subst eh
        rw [show (Wk.items (.its (Sh.encL (kids s)))).length = (kids s).length by rw [Wk.items, encL_map, List.length_map], List.take_length] at ea
        subst ea
        repeat walk_at "pi"
        refine ww.mono fun r h5 ⟨eh, er⟩ => ?_
        subst eh er
        repeat walk_at "pi"
        exact ⟨rfl, rfl⟩
/-! ### the law's substitution -/
def prP (p : Int × Sh) : D := .tup [.int p.1, p.2.enc]
theorem appl_w : ∀ (d : Nat) {f : Nat} {h : Hh} {s : Sh} {M : Nat} {ps : List (Int × Sh)}, dp s ≤ d → h[M]? = some (.lst (ps.map prP)) → sz s ≤ 10000 → Sat (sem T (f + d + 2) 12 [s.enc, .ref M] h) fun r h' => Ext h h' ∧ r = (app (sb ps) s).enc := by
  intro d
  induction d with
  | zero => intro f h s M ps hd; have := dp_pos s; omega
  | succ d ih =>
    intro f h s M ps hd eM hz
    refine sat__law_apply (f := f + d + 2) ?_
    unfold b__law_apply
    cases hv : isV s with
    | true =>
      obtain ⟨n, rfl⟩ := isV_of hv
      simp only [Sh.enc]
      repeat walk_at "pi"
      refine wsK.lst eM ?_
      have look_at : ∀ i p, ps[i]? = some p → n ∉ (ps.take i).map (·.1) → p.1 = n → look ps n = some p.2 := by
        intro i p hp hn e
        have es : ps = ps.take i ++ p :: ps.drop (i + 1) := by
          obtain ⟨hi, e⟩ := List.getElem?_eq_some_iff.mp hp
          rw [← e, ← List.drop_eq_getElem_cons hi, List.take_append_drop]
        rw [es]
        generalize ps.take i = l at hn ⊢
        induction l with
        | nil => simp [look, e]
        | cons q l ih =>
          obtain ⟨a, b⟩ := q
          simp only [List.map_cons, List.mem_cons, not_or] at hn
          rw [List.cons_append, look, if_neg (fun e => hn.1 e.symm)]
          exact ih hn.2
      refine Sat.forIx (fun i e h' => h' = h ∧ n ∉ (ps.take i).map (·.1) ∧ ∃ v2 v3 v4, e = [some (.tup [.str s_v, .int n]), some (.ref M), v2, v3, v4]) ⟨rfl, by simp, _, _, _, rfl⟩ (fun _ _ h' ⟨eh, _⟩ => Wk.still_lst (by subst eh; simp only [lstAt, eM])) (fun i x e h4 hd2 ⟨eh, hn, v2, v3, v4, ee⟩ => ?_) fun e h4 ⟨eh, hn, v2, v3, v4, ee⟩ => ?_
      · subst eh ee
        rw [Wk.items, List.getElem?_map] at hd2
        cases gk : ps[i]? with
        | none => rw [gk] at hd2; cases hd2
        | some p =>
          rw [gk] at hd2
          cases hd2
          unfold prP
          repeat walk_at "pi"
          refine ifK.d (fun c => ?_) fun c => ?_
          · repeat walk_at "pi"
            refine ⟨Ext.refl _, ?_⟩
            rw [app, sb, look_at i p gk hn c]
            rfl
          · repeat walk_at "pi"
            refine ⟨rfl, ?_, _, _, _, rfl⟩
            rw [List.take_succ, gk]
            simp only [Option.toList, List.map_append, List.mem_append, not_or, List.map_cons, List.map_nil, List.mem_singleton]
            exact ⟨hn, fun e => c e.symm⟩
      · subst eh ee
        rw [Wk.items, List.length_map, List.take_length] at hn
        repeat walk_at "pi"
        refine ⟨Ext.refl _, ?_⟩
        rw [app, sb, look_none hn]
        rfl
    | false =>
      obtain ⟨tg, ds, etg, htg⟩ := nv_enc hv
      have pw := lparts_w (h := h) (f := f + d + 1) (s := s)
      have ww := fun (h : Hh) (n : Nat) => rebuilt_w (h := h) (f := f + d + 1) (s := s) (σ := sb ps) (n := n) hv
      have szk := sz_kids s
      rw [etg] at pw ww ⊢
      repeat walk_at "pi"
      rw [htg]
      repeat walk_at "pi"
      refine pw.mono fun r h3 ⟨eh, er⟩ => ?_
      subst eh er
      repeat walk_at "pi"
      refine Sat.compIx (fun i acc h' => Ext h3 h' ∧ acc = Sh.encL (((kids s).take i).map (app (sb ps)))) ⟨Ext.refl _, rfl⟩ (fun _ _ _ _ => rfl) (fun i x acc h4 hd2 ⟨eh, ea⟩ => ?_) fun acc h4 ⟨eh, ea⟩ => ?_
      · rw [Wk.items, encL_map, List.getElem?_map] at hd2
        cases gk : (kids s)[i]? with
        | none => rw [gk] at hd2; cases hd2
        | some k =>
          rw [gk] at hd2
          cases hd2
          have hi := (List.getElem?_eq_some_iff.mp gk).1
          have hk := List.mem_of_getElem? gk
          have dk := dp_kid hk
          have zk := sz_kid hk
          have kl := len_szL (kids s)
          repeat walk_at "pi"
          refine (ih (f := f) (by omega) (eh.at eM) (by omega)).mono fun r h5 ⟨x5, er⟩ => ?_
          subst er
          refine ⟨?_, eh.trans x5, ?_⟩
          · rw [ea, encL_map, List.length_map, List.length_map, List.length_take]
            unfold SL
            omega
          · rw [ea, encL_map, encL_map, List.take_succ, gk]
            simp
      · rw [show (Wk.items (.its (Sh.encL (kids s)))).length = (kids s).length by rw [Wk.items, encL_map, List.length_map], List.take_length] at ea
        subst ea
        repeat walk_at "pi"
        refine (ww _ _ at_push).mono fun r h5 ⟨eh5, er⟩ => ?_
        subst eh5 er
        repeat walk_at "pi"
        exact ⟨eh.trans Ext.push, rfl⟩
end
end K11
/-! ## LawD_K11 -/
set_option Elab.async false
set_option linter.all false
set_option maxRecDepth 100000
set_option maxHeartbeats 4000000
set_option autoImplicit false
/-! K11: what the law draws. -/
namespace K11
open PI PI.GC
local macro_rules | `(tactic| walk_at "pi") => `(tactic| (
  first
  | (with_reducible refine PI.red ?_)
  | ((with_reducible show PI.Sat (PI.dVar _ _ _) _); refine Sat.var rfl ?_)
  | ((with_reducible show PI.Sat (PI.sAug _ _ _ _ _) _); refine Sat.aug rfl ?_)
  | ((with_reducible show PI.npK _ _ _); refine npK.mk rfl ?_)
  | ((with_reducible show PI.szK _ _); refine szK.mk (by simp only [List.length_cons, List.length_nil]; decide) ?_)
  | ((with_reducible show PI.isaK _ _ _ _); refine isaK.mk rfl ?_)
  | ((with_reducible show PI.ifK _ _ _); first | (refine ifK.t (by rfl) ?_) | (refine ifK.f (by rfl) ?_))
  | ((with_reducible show PI.Sat (PI.gTp _ _ _ _ _) _); refine Sat.gTp rfl ?_)
  | ((with_reducible show PI.Sat (PI.cIsB _ _ _) _); refine Sat.isB rfl ?_)
  | ((with_reducible show PI.Sat (PI.cNotB _ _ _) _); refine Sat.notB rfl ?_)
  | ((with_reducible show PI.Sat (PI.cIn _ (PI.D.tup _) _) _); refine Sat.inT rfl ?_)
  | ((with_reducible show PI.Sat (PI.cNin _ (PI.D.tup _) _) _); refine Sat.ninT rfl ?_)
  | ((with_reducible show PI.Sat (PI.cIsN _ _) _); refine Sat.isN rfl ?_)
  | ((with_reducible show PI.Sat (PI.cNotN _ _) _); refine Sat.notN rfl ?_)
  | ((with_reducible show PI.Sat (PI.oPow _ _ _) _); refine Sat.powI (by decide) ?_)))
section
variable {h : Hh} {f : Nat}
/-! ### what the law draws -/
def Tp (h : Hh) (t : Nat) : Prop := ∃ ts : List Int, ts ≠ [] ∧ h[t]? = some (.lst (ts.map .int))
theorem Tp.ext {h h' : Hh} {t : Nat} (a : Tp h t) (b : Ext h h') : Tp h' t := by
  obtain ⟨ts, h1, h2⟩ := a
  exact ⟨ts, h1, b.at h2⟩
theorem hPick : T 7 = ⟨3, 3, fun _ => pickB⟩ := rfl
theorem pick {f : Nat} {h : Hh} {t : Nat} {i m : Int} (a : Tp h t) (hm : 0 < m) : Sat (sem T (f + 1) 7 [.ref t, .int i, .int m] h) fun r h' => h' = h ∧ ∃ d : Int, r = .int d ∧ 0 ≤ d ∧ d < m := by
  obtain ⟨ts, h1, h2⟩ := a
  exact pick_ok hPick h2 h1 hm
/-- the numbers of variables to draw from -/
def FrOk (fr : List Int) (h : Hh) (FR : Nat) : Prop := h[FR]? = some (L fr)
theorem FrOk.ext {fr : List Int} {h h' : Hh} {t : Nat} (a : FrOk fr h t) (b : Ext h h') : FrOk fr h' t := b.at a
abbrev Oks (fr : List Int) (s : Sh) : Prop := All (fun n => n ∈ fr) (fun s => 0 ≤ s ∧ s < 700) s
theorem leaf_w {fr : List Int} {t FR : Nat} {at_ : Int} (tp : Tp h t) (fo : FrOk fr h FR) : Sat (sem T (f + 2) 8 [.ref t, .int at_, .ref FR] h) fun r h' => h' = h ∧ ∃ s : Sh, r = s.enc ∧ Oks fr s ∧ sz s = 1 ∧ dp s = 1 := by
  have eF : h[FR]? = some (L fr) := fo
  refine sat__law_leaf ?_
  unfold b__law_leaf
  repeat walk_at "pi"
  refine Sat.lenL eF ?_
  repeat walk_at "pi"
  rw [List.length_map]
  refine (pick (f := f) tp (by omega)).mono fun r h2 ⟨eh, d, er, d0, d1⟩ => ?_
  subst eh er
  repeat walk_at "pi"
  refine ifK.d (fun c => ?_) fun c => ?_
  · repeat walk_at "pi"
    obtain ⟨n, hn⟩ : ∃ n : Nat, d - 4 = n := ⟨(d - 4).toNat, by omega⟩
    rw [hn]
    have hnl : n < fr.length := by omega
    have gn := List.getElem?_eq_getElem hnl
    refine Sat.ixL (z := .int fr[n]) eF (atIx_nat (by rw [List.getElem?_map, gn]; rfl)) ?_
    repeat walk_at "pi"
    exact ⟨rfl, .v fr[n], rfl, List.getElem_mem hnl, rfl, rfl⟩
  · repeat walk_at "pi"
    refine Sat.ixT' d0 (by simp; omega) fun x hx => ?_
    simp only [List.mem_cons, List.not_mem_nil, or_false] at hx
    rcases hx with rfl | rfl | rfl | rfl
    · repeat walk_at "pi"
      exact ⟨rfl, .c 0 [], rfl, ⟨by decide, trivial⟩, rfl, rfl⟩
    · repeat walk_at "pi"
      exact ⟨rfl, .c 1 [], rfl, ⟨by decide, trivial⟩, rfl, rfl⟩
    · repeat walk_at "pi"
      exact ⟨rfl, .c 4 [], rfl, ⟨by decide, trivial⟩, rfl, rfl⟩
    · repeat walk_at "pi"
      exact ⟨rfl, .c 0 [], rfl, ⟨by decide, trivial⟩, rfl, rfl⟩
def SzB : Nat → Nat
  | 0 => 1
  | l + 1 => 1 + 4 * SzB l
theorem szB_pos : ∀ l, 1 ≤ SzB l
  | 0 => Nat.le_refl _
  | l + 1 => by rw [SzB]; omega
theorem szL_le {b : Nat} : ∀ {ss : List Sh}, (∀ s ∈ ss, sz s ≤ b) → szL ss ≤ ss.length * b
  | [], _ => by simp [szL]
  | s :: ss, h => by
    have h1 := h s (by simp)
    have h2 := szL_le (ss := ss) fun q hq => h q (by simp [hq])
    rw [szL, List.length_cons, Nat.succ_mul]
    omega
structure Dr (fr : List Int) (l : Nat) (s : Sh) : Prop where
  ok : Oks fr s
  sz : sz s ≤ SzB l
  dp : dp s ≤ l + 1
def DrR (fr : List Int) (l : Nat) (h : Hh) (r : D) (h' : Hh) : Prop := Ext h h' ∧ ∃ (s : Sh) (at' : Int), r = .tup [s.enc, .int at'] ∧ Dr fr l s
theorem shape_step {fr : List Int} {l : Nat} {g : Nat} {t FR : Nat} {at_ : Int} (tp : Tp h t) (fo : FrOk fr h FR)
    (ih : ∀ (l' : Nat) (h : Hh) (at_ : Int), l = l' + 1 → Tp h t → FrOk fr h FR → Sat (sem T (g + 2) 9 [.ref t, .int at_, .int (l' : Nat), .ref FR] h) (DrR fr l' h)) :
    Sat (sem T (g + 3) 9 [.ref t, .int at_, .int (l : Nat), .ref FR] h) (DrR fr l h) := by
  refine sat__law_shape (f := g + 2) ?_
  unfold b__law_shape
  repeat walk_at "pi"
  refine (pick (f := g + 1) tp (by decide)).mono fun r h2 ⟨eh, d, er, d0, d1⟩ => ?_
  subst eh er
  repeat walk_at "pi"
  refine ifK.d (fun c0 => ?_) fun c0 => ?_
  · repeat walk_at "pi"
    refine (leaf_w (f := g) tp fo).mono fun r h3 ⟨eh, s, er, os, zs, ds⟩ => ?_
    subst eh er
    repeat walk_at "pi"
    exact ⟨Ext.refl _, s, _, rfl, os, by have := szB_pos l; omega, by omega⟩
  repeat walk_at "pi"
  refine ifK.d (fun c1 => ?_) fun c1 => ?_
  · repeat walk_at "pi"
    refine (leaf_w (f := g) tp fo).mono fun r h3 ⟨eh, s, er, os, zs, ds⟩ => ?_
    subst eh er
    repeat walk_at "pi"
    exact ⟨Ext.refl _, s, _, rfl, os, by have := szB_pos l; omega, by omega⟩
  obtain ⟨l', rfl⟩ : ∃ l', l = l' + 1 := ⟨l - 1, by omega⟩
  have el : ((l' + 1 : Nat) : Int) - 1 = (l' : Nat) := by omega
  have s4 : SzB (l' + 1) = 1 + 4 * SzB l' := rfl
  have s1 := szB_pos l'
  repeat walk_at "pi"
  refine ifK.d (fun c2 => ?_) fun c2 => ?_
  · repeat walk_at "pi"
    rw [el]
    refine (ih l' _ _ rfl tp fo).mono fun r h3 ⟨x3, a, at3, er, da⟩ => ?_
    subst er
    repeat walk_at "pi"
    rw [el]
    refine (ih l' _ _ rfl (tp.ext x3) (fo.ext x3)).mono fun r h4 ⟨x4, b, at4, er, db⟩ => ?_
    subst er
    repeat walk_at "pi"
    refine ⟨x3.trans x4, .f a b, _, rfl, ⟨da.ok, db.ok⟩, ?_, ?_⟩
    · have := da.sz
      have := db.sz
      simp only [sz]
      omega
    · have := da.dp
      have := db.dp
      simp only [dp]
      omega
  repeat walk_at "pi"
  refine ifK.d (fun c3 => ?_) fun c3 => ?_
  · repeat walk_at "pi"
    rw [el]
    refine (ih l' _ _ rfl tp fo).mono fun r h3 ⟨x3, a, at3, er, da⟩ => ?_
    subst er
    repeat walk_at "pi"
    refine (pick (f := g + 1) (tp.ext x3) (by decide)).mono fun r h4 ⟨eh, e, er, e0, e1⟩ => ?_
    subst eh er
    refine Sat.ixT' e0 (by simpa using e1) fun x hx => ?_
    have fin : ∀ n : Int, 0 ≤ n ∧ n < 700 → DrR fr (l' + 1) h2 (.tup [.tup [.str s_c, .int n, .tup [a.enc]], .int (at3 + 1)]) h4 := fun n hn => ⟨x3, .c n [a], _, rfl, ⟨hn, da.ok, trivial⟩, by have := da.sz; simp only [sz, szL]; omega, by have := da.dp; simp only [dp, dpL]; omega⟩
    simp only [List.mem_cons, List.not_mem_nil, or_false] at hx
    rcases hx with rfl | rfl | rfl
    · repeat walk_at "pi"
      exact fin 3 (by decide)
    · repeat walk_at "pi"
      exact fin 5 (by decide)
    · repeat walk_at "pi"
      exact fin 6 (by decide)
  repeat walk_at "pi"
  refine (pick (f := g + 1) (tp.ext Ext.push) (by decide)).mono fun r h3 ⟨eh, e, er, e0, e1⟩ => ?_
  subst eh er
  obtain ⟨N, hN⟩ : ∃ N, N = h2.length := ⟨_, rfl⟩
  repeat walk_at "pi"
  refine Sat.divI (by decide) ?_
  have ed : e.fdiv 2 = 0 ∨ e.fdiv 2 = 1 ∨ e.fdiv 2 = 2 := by rw [Int.fdiv_eq_ediv, if_pos (.inl (by omega))]; omega
  obtain ⟨k, hk⟩ : ∃ k : Nat, 2 + e.fdiv 2 = (k : Nat) := ⟨(2 + e.fdiv 2).toNat, by omega⟩
  have hk2 : 2 ≤ k ∧ k ≤ 4 := by omega
  repeat walk_at "pi"
  rw [hk, ← hN]
  repeat walk_at "pi"
  refine ⟨⟨by omega, by omega⟩, ?_⟩
  have hlen : (Wk.items (.rng 0 ((k : Nat) : Int).toNat)).length = k := by rw [rng_len]; omega
  refine Sat.forIx (fun i e h' => Ext h2 h' ∧ ∃ (ps : List Sh) (at' : Int) (v10 v11 : Option D), ps.length = i ∧ (∀ p ∈ ps, Dr fr l' p) ∧ h'[N]? = some (.lst (ps.map Sh.enc)) ∧ e = [some (.ref t), some (.int at'), some (.int ((l' + 1 : Nat) : Int)), some (.ref FR), some (.int d), none, none, none, some (.ref N), some (.int (k : Nat)), v10, v11]) ⟨Ext.push, [], _, _, _, rfl, by simp, by rw [hN]; exact at_push, rfl⟩ (fun _ _ _ _ => rfl) (fun i x e' h4 hd ⟨x4, ps, at', v10, v11, hpl, hps, eN, ee⟩ => ?_) fun e' h4 ⟨x4, ps, at', v10, v11, hpl, hps, eN, ee⟩ => ?_
  · subst ee
    obtain ⟨hi, rfl⟩ := rng_at hd
    repeat walk_at "pi"
    rw [el]
    refine (ih l' _ _ rfl (tp.ext x4) (fo.ext x4)).mono fun r h5 ⟨x5, a, at5, er, da⟩ => ?_
    subst er
    have eN5 := x5.at eN
    repeat walk_at "pi"
    refine lsK.mk eN5 ?_
    repeat walk_at "pi"
    refine Sat.append eN5 (by simp; unfold SL; omega) ?_
    repeat walk_at "pi"
    refine ⟨(x4.trans x5).set (by omega), ps ++ [a], at5, _, _, by simp [hpl], fun p hp => ?_, by rw [at_set eN5]; simp, rfl⟩
    rcases List.mem_append.mp hp with z | z
    · exact hps p z
    · rw [List.mem_singleton.mp z]; exact da
  · subst ee
    rw [hlen] at hpl
    repeat walk_at "pi"
    refine Sat.tupL eN ?_
    repeat walk_at "pi"
    refine ⟨x4, .t ps, _, by rw [Sh.enc, encL_map], AllL_iff.mpr fun q hq => (hps q hq).ok, ?_, ?_⟩
    · have h1 := szL_le (b := SzB l') fun p hp => (hps p hp).sz
      have h2 : ps.length * SzB l' ≤ 4 * SzB l' := Nat.mul_le_mul_right _ (by omega)
      simp only [sz]
      omega
    · have := dpL_le.mpr fun p hp => (hps p hp).dp
      simp only [dp]
      omega
theorem shape_w {fr : List Int} : ∀ (l f : Nat) {h : Hh} {t FR : Nat} {at_ : Int}, Tp h t → FrOk fr h FR → Sat (sem T (f + l + 3) 9 [.ref t, .int at_, .int (l : Nat), .ref FR] h) (DrR fr l h)
  | 0, f, h, t, FR, at_, tp, fo => shape_step (g := f) tp fo fun l' h at_ e => by omega
  | l + 1, f, h, t, FR, at_, tp, fo => shape_step (g := f + (l + 1)) tp fo fun l' h at_ e tp fo => by
    cases e
    exact shape_w l f tp fo
end
end K11
/-! ## LawE_K11 -/
set_option Elab.async false
set_option linter.all false
set_option maxRecDepth 100000
set_option maxHeartbeats 4000000
set_option autoImplicit false
/-! K11: bounds, substitute, chains. -/
namespace K11
open PI PI.GC
local macro_rules | `(tactic| walk_at "pi") => `(tactic| (
  first
  | (with_reducible refine PI.red ?_)
  | ((with_reducible show PI.Sat (PI.dVar _ _ _) _); refine Sat.var rfl ?_)
  | ((with_reducible show PI.Sat (PI.sAug _ _ _ _ _) _); refine Sat.aug rfl ?_)
  | ((with_reducible show PI.npK _ _ _); refine npK.mk rfl ?_)
  | ((with_reducible show PI.szK _ _); refine szK.mk (by simp only [List.length_cons, List.length_nil]; decide) ?_)
  | ((with_reducible show PI.isaK _ _ _ _); refine isaK.mk rfl ?_)
  | ((with_reducible show PI.ifK _ _ _); first | (refine ifK.t (by rfl) ?_) | (refine ifK.f (by rfl) ?_))
  | ((with_reducible show PI.Sat (PI.gTp _ _ _ _ _) _); refine Sat.gTp rfl ?_)
  | ((with_reducible show PI.Sat (PI.cIsB _ _ _) _); refine Sat.isB rfl ?_)
  | ((with_reducible show PI.Sat (PI.cNotB _ _ _) _); refine Sat.notB rfl ?_)
  | ((with_reducible show PI.Sat (PI.cIn _ (PI.D.tup _) _) _); refine Sat.inT rfl ?_)
  | ((with_reducible show PI.Sat (PI.cNin _ (PI.D.tup _) _) _); refine Sat.ninT rfl ?_)
  | ((with_reducible show PI.Sat (PI.cIsN _ _) _); refine Sat.isN rfl ?_)
  | ((with_reducible show PI.Sat (PI.cNotN _ _) _); refine Sat.notN rfl ?_)
  | ((with_reducible show PI.Sat (PI.oPow _ _ _) _); refine Sat.powI (by decide) ?_)))
section
variable {h : Hh} {f : Nat}
theorem hSame : T 5 = ⟨4, 2, sameB 5⟩ := rfl
/-- a pick answers the same each time -/
theorem pickD {t : Nat} (a : Tp h t) (i m : Int) (hm : 0 < m) : ∃ d : Int, 0 ≤ d ∧ d < m ∧ ∀ (f : Nat) (h' : Hh), Ext h h' → Sat (sem T (f + 1) 7 [.ref t, .int i, .int m] h') fun r h2 => h2 = h' ∧ r = .int d := by
  obtain ⟨xs, hx, e⟩ := a
  have hl : 0 < xs.length := by
    cases xs with
    | nil => exact absurd rfl hx
    | cons _ _ => simp
  have m0 : 0 ≤ i.fmod xs.length := Int.fmod_nonneg_of_pos _ (by omega)
  have m1 : i.fmod xs.length < xs.length := Int.fmod_lt_of_pos _ (by omega)
  obtain ⟨x, e1, e2⟩ := atIx_int (xs := xs.map D.int) m0 (by rw [List.length_map]; exact m1)
  rw [List.getElem?_map, Option.map_eq_some_iff] at e2
  obtain ⟨y, _, rfl⟩ := e2
  refine ⟨y.fmod m, Int.fmod_nonneg_of_pos _ hm, Int.fmod_lt_of_pos _ hm, fun f h' xe => ?_⟩
  have e' := xe.at e
  refine Sat.start3 hPick ?_
  unfold pickB
  repeat walk_at "pi"
  refine Sat.lenL e' ?_
  rw [List.length_map]
  refine Sat.modI (by omega) ?_
  refine Sat.ixL e' e1 ?_
  repeat walk_at "pi"
  refine Sat.modI (by omega) ?_
  repeat walk_at "pi"
  exact ⟨rfl, rfl⟩
def prS (w : Sh × Nat) : D := .tup [w.1.enc, .int (w.2 : Nat)]
def GdS (m : Nat) (ws : List (Sh × Nat)) : Prop := m + szL (ws.map (·.1)) ≤ 2000 ∧ ∀ w ∈ ws, w.2 + dp w.1 ≤ 101
theorem gd_step {m n : Nat} {ys : List (Sh × Nat)} {s : Sh} (hl : n ≤ 100) : GdS m (ys ++ [(s, n)]) ↔ GdS (m + 1) (ys ++ (kids s).map fun q => (q, n + 1)) := by
  have e1 : szL ((ys ++ [(s, n)]).map (·.1)) = szL (ys.map (·.1)) + (1 + szL (kids s)) := by
    rw [List.map_append, szL_app]
    simp only [List.map_cons, List.map_nil, szL, sz_kids s]
    omega
  have e2 : szL ((ys ++ (kids s).map fun q => (q, n + 1)).map (·.1)) = szL (ys.map (·.1)) + szL (kids s) := by
    rw [List.map_append, szL_app, List.map_map]
    congr 1
    rw [show ((fun w : Sh × Nat => w.1) ∘ fun q => (q, n + 1)) = id from rfl, List.map_id]
  unfold GdS
  rw [e1, e2]
  constructor
  · rintro ⟨b, c⟩
    refine ⟨by omega, fun w hw => ?_⟩
    rcases List.mem_append.mp hw with z | z
    · exact c w (by simp [z])
    · obtain ⟨q, hq, rfl⟩ := List.mem_map.mp z
      have h1 := c (s, n) (by simp)
      have h2 := dp_kid hq
      simp only at h1
      show n + 1 + dp q ≤ 101
      omega
  · rintro ⟨b, c⟩
    refine ⟨by omega, fun w hw => ?_⟩
    rcases List.mem_append.mp hw with z | z
    · exact c w (by simp [z])
    · rw [List.mem_singleton.mp z]
      show n + dp s ≤ 101
      have h2 : dpL (kids s) ≤ 100 - n := dpL_le.mpr fun q hq => by
        have : n + 1 + dp q ≤ 101 := c (q, n + 1) (List.mem_append.mpr (.inr (List.mem_map.mpr ⟨q, hq, rfl⟩)))
        omega
      rw [dp_kids]
      omega
theorem within_w {s : Sh} (hz : sz s ≤ 10000) : Sat (sem T (f + 2) 2 [s.enc] h) fun r h' => Ext h h' ∧ ∃ b, r = .bl b ∧ (b = true ↔ (sz s ≤ 2000 ∧ dp s ≤ 100)) := by
  refine sat_within_bounds ?_
  unfold b_within_bounds
  repeat walk_at "pi"
  obtain ⟨N, hN⟩ : ∃ N, N = h.length := ⟨_, rfl⟩
  rw [← hN]
  have g0 : GdS 0 [(s, 1)] ↔ (sz s ≤ 2000 ∧ dp s ≤ 100) := by
    unfold GdS
    simp [szL]
    omega
  refine Sat.whGo (fun m e h' => Ext h h' ∧ ∃ (ws : List (Sh × Nat)) (c : Nat) (v3 v4 v5 : Option D), m = szL (ws.map (·.1)) ∧ m ≤ 10000 ∧ c ≤ 2000 ∧ h'[N]? = some (.lst (ws.map prS)) ∧ (GdS c ws ↔ (sz s ≤ 2000 ∧ dp s ≤ 100)) ∧ e = [some s.enc, some (.ref N), some (.int (c : Nat)), v3, v4, v5]) (sz s)
    ⟨Ext.push, [(s, 1)], 0, _, _, _, by simp [szL], hz, by omega, by rw [hN]; exact at_push, g0, rfl⟩ (fun m e h' ⟨xh, ws, c, v4, v5, v6, hm, hm2, hc, eN, hg, ee⟩ => ?_) (by unfold WF; omega)
  subst ee
  repeat walk_at "pi"
  refine trK.lst eN ?_
  rcases List.eq_nil_or_concat ws with rfl | ⟨ys, ⟨q, n⟩, rfl⟩
  · repeat walk_at "pi"
    exact ⟨xh, true, rfl, by rw [← hg]; simp [GdS, szL]; exact hc⟩
  · rw [List.concat_eq_append] at *
    rw [show (!((ys ++ [(q, n)]).map prS).isEmpty) = true by cases ys <;> rfl]
    have eN' : h'[N]? = some (.lst (ys.map prS ++ [prS (q, n)])) := by rw [eN]; simp
    have em : m = szL (ys.map (·.1)) + sz q := by rw [hm, List.map_append, szL_app]; simp [szL]
    have yl := len_szL (ys.map (·.1))
    rw [List.length_map] at yl
    repeat walk_at "pi"
    refine lsK.mk eN' ?_
    repeat walk_at "pi"
    refine Sat.pop eN' ?_
    have eN1 := at_set (o := Ob.lst (ys.map prS)) eN
    have x1 : Ext h (h'.set N (Ob.lst (ys.map prS))) := xh.set (by omega)
    revert eN1 x1
    generalize h'.set N (Ob.lst (ys.map prS)) = h1
    intro eN1 x1
    unfold prS
    repeat walk_at "pi"
    refine Sat.iaddJ ?_
    rw [show ((c : Nat) : Int) + 1 = ((c + 1 : Nat) : Int) by omega]
    unfold g_MAX_SIZE g_MAX_DEPTH
    repeat walk_at "pi"
    refine ifK.d (fun c1 => ?_) fun c1 => ?_
    · repeat walk_at "pi"
      refine ⟨x1, false, rfl, by rw [← hg]; simp only [Bool.false_eq_true, false_iff]; rintro ⟨b, _⟩; rw [List.map_append, szL_app] at b; simp only [List.map_cons, List.map_nil, szL] at b; have := sz_pos q; omega⟩
    repeat walk_at "pi"
    refine ifK.d (fun c2 => ?_) fun c2 => ?_
    · repeat walk_at "pi"
      refine ⟨x1, false, rfl, by rw [← hg]; simp only [Bool.false_eq_true, false_iff]; rintro ⟨_, b⟩; have := b (q, n) (by simp); have := dp_pos q; simp at *; omega⟩
    repeat walk_at "pi"
    refine (parts_w (f := f)).mono fun r h3 ⟨eh, er⟩ => ?_
    subst eh er
    repeat walk_at "pi"
    have kl := len_szL (kids q)
    have szk := sz_kids q
    have hn100 : n ≤ 100 := by omega
    refine Sat.forIx (fun i e h' => Ext h h' ∧ h'[N]? = some (.lst ((ys ++ ((kids q).take i).map fun k => (k, n + 1)).map prS)) ∧ ∃ v6, e = [some s.enc, some (.ref N), some (.int ((c + 1 : Nat) : Int)), some q.enc, some (.int (n : Nat)), v6]) ⟨x1, by simpa using eN1, _, rfl⟩ (fun _ _ _ _ => rfl) (fun i d e h4 hd ⟨x4, e4, v6', ee⟩ => ?_) fun e h4 ⟨x4, e4, v6', ee⟩ => ?_
    · subst ee
      rw [Wk.items, encL_map, List.getElem?_map] at hd
      cases gk : (kids q)[i]? with
      | none => rw [gk] at hd; cases hd
      | some k =>
        rw [gk] at hd
        cases hd
        have hi := (List.getElem?_eq_some_iff.mp gk).1
        repeat walk_at "pi"
        refine lsK.mk e4 ?_
        repeat walk_at "pi"
        refine Sat.append e4 (by simp; unfold SL; omega) ?_
        repeat walk_at "pi"
        refine ⟨x4.set (by omega), ?_, _, rfl⟩
        rw [at_set e4, List.take_succ, gk]
        simp [prS]
    · subst ee
      rw [show (Wk.items (.its (Sh.encL (kids q)))).length = (kids q).length by rw [Wk.items, encL_map, List.length_map], List.take_length] at e4
      refine ⟨szL (ys.map (·.1)) + szL (kids q), by omega, x4, ys ++ (kids q).map fun k => (k, n + 1), c + 1, _, _, _, ?_, by omega, by omega, e4, (gd_step hn100).symm.trans hg, rfl⟩
      rw [List.map_append, szL_app, List.map_map]
      congr 1
      rw [show ((fun w : Sh × Nat => w.1) ∘ fun q => (q, n + 1)) = id from rfl, List.map_id]
/-- what substitute answers -/
theorem subst_x {d M : Nat} {s : Sh} {ps : List (Int × Sh)} (hd : dp s ≤ d) (e : h[M]? = some (.dk (kvD ps))) (hz : sz s ≤ 10000) (hz2 : sz (app (sb ps) s) ≤ 10000) :
    SatX (sem T (f + d + 3) 4 [s.enc, .ref M] h) (fun r h' => Ext h h' ∧ (sz (app (sb ps) s) ≤ 2000 ∧ dp (app (sb ps) s) ≤ 100) ∧ r = (app (sb ps) s).enc) fun c _ => c = 0 ∧ ¬ (sz (app (sb ps) s) ≤ 2000 ∧ dp (app (sb ps) s) ≤ 100) := by
  rw [sem_substitute]
  refine SatX.body rfl ?_
  unfold b_substitute
  simp only [List.map_cons, List.map_nil]
  repeat walk_at "pi"
  refine (repl_w d (f := f) hd e hz).mono fun r h1 ⟨eh, er⟩ => ?_
  subst eh er
  repeat walk_at "pi"
  refine (within_w (f := f + d) hz2).mono fun r h2 ⟨x2, b, er, hb⟩ => ?_
  subst er
  cases b with
  | true =>
    repeat walk_at "pi"
    exact ⟨x2, hb.mp rfl, rfl⟩
  | false =>
    repeat walk_at "pi"
    exact ⟨rfl, fun z => by have := hb.mpr z; cases this⟩
theorem subst_ok {d M : Nat} {s : Sh} {ps : List (Int × Sh)} (hd : dp s ≤ d) (e : h[M]? = some (.dk (kvD ps))) (hz : sz s ≤ 10000) (hz2 : sz (app (sb ps) s) ≤ 2000) (hd2 : dp (app (sb ps) s) ≤ 100) :
    Sat (sem T (f + d + 3) 4 [s.enc, .ref M] h) (fun r h' => Ext h h' ∧ r = (app (sb ps) s).enc) := by
  rcases subst_x (f := f) hd e hz (by omega) with z | ⟨c, h', e1, e2⟩
  · exact z.mono fun r h1 q => ⟨q.1, q.2.2⟩
  · exact absurd ⟨hz2, hd2⟩ e2.2
theorem answer_w {d M : Nat} {s : Sh} {ps : List (Int × Sh)} (hd : dp s ≤ d) (e : h[M]? = some (.dk (kvD ps))) (hz : sz s ≤ 10000) (hz2 : sz (app (sb ps) s) ≤ 10000) :
    Sat (sem T (f + d + 4) 15 [s.enc, .ref M] h) fun r _ => ((sz (app (sb ps) s) ≤ 2000 ∧ dp (app (sb ps) s) ≤ 100) ∧ r = (app (sb ps) s).enc) ∨ (¬ (sz (app (sb ps) s) ≤ 2000 ∧ dp (app (sb ps) s) ≤ 100) ∧ r = .non) := by
  refine sat__law_answer (f := f + d + 3) ?_
  unfold b__law_answer
  walk_at "pi"
  refine Sat.retX (SatX.callN ?_)
  repeat walk_at "pi"
  refine ⟨rfl, (subst_x (f := f) hd e hz hz2).mono (fun r h1 ⟨_, a, b⟩ => ?_) fun c h1 ⟨ec, hn⟩ => ?_⟩
  · repeat walk_at "pi"
    exact .inl ⟨a, b⟩
  · subst ec
    refine tryK.hit (by decide) ?_
    repeat walk_at "pi"
    exact .inr ⟨hn, rfl⟩
end
end K11
/-! ## Law_K11 -/
set_option Elab.async false
set_option linter.all false
set_option maxRecDepth 100000
set_option maxHeartbeats 4000000
set_option autoImplicit false
namespace K11
open PI PI.GC
local macro_rules | `(tactic| walk_at "pi") => `(tactic| (
  first
  | (with_reducible refine PI.red ?_)
  | ((with_reducible show PI.Sat (PI.dVar _ _ _) _); refine Sat.var rfl ?_)
  | ((with_reducible show PI.Sat (PI.sAug _ _ _ _ _) _); refine Sat.aug rfl ?_)
  | ((with_reducible show PI.npK _ _ _); refine npK.mk rfl ?_)
  | ((with_reducible show PI.szK _ _); refine szK.mk (by simp only [List.length_cons, List.length_nil]; decide) ?_)
  | ((with_reducible show PI.isaK _ _ _ _); refine isaK.mk rfl ?_)
  | ((with_reducible show PI.ifK _ _ _); first | (refine ifK.t (by rfl) ?_) | (refine ifK.f (by rfl) ?_))
  | ((with_reducible show PI.Sat (PI.gTp _ _ _ _ _) _); refine Sat.gTp rfl ?_)
  | ((with_reducible show PI.Sat (PI.cIsB _ _ _) _); refine Sat.isB rfl ?_)
  | ((with_reducible show PI.Sat (PI.cNotB _ _ _) _); refine Sat.notB rfl ?_)
  | ((with_reducible show PI.Sat (PI.cIn _ (PI.D.tup _) _) _); refine Sat.inT rfl ?_)
  | ((with_reducible show PI.Sat (PI.cNin _ (PI.D.tup _) _) _); refine Sat.ninT rfl ?_)
  | ((with_reducible show PI.Sat (PI.cIsN _ _) _); refine Sat.isN rfl ?_)
  | ((with_reducible show PI.Sat (PI.cNotN _ _) _); refine Sat.notN rfl ?_)
  | ((with_reducible show PI.Sat (PI.oPow _ _ _) _); refine Sat.powI (by decide) ?_)))
/-- a chain of functions, n on top of e -/
def chS : Nat → Sh → Sh
  | 0, e => e
  | n + 1, e => .f (.c 4 []) (chS n e)
theorem chS_app (σ : Int → Sh) : ∀ n e, app σ (chS n e) = chS n (app σ e)
  | 0, e => rfl
  | n + 1, e => by
    rw [chS, chS, app, chS_app σ n e]
    rfl
theorem chS_add : ∀ n m e, chS n (chS m e) = chS (n + m) e
  | 0, m, e => by rw [Nat.zero_add]; rfl
  | n + 1, m, e => by
    rw [chS, chS_add n m e, show n + 1 + m = (n + m) + 1 by omega, chS]
theorem chS_sz : ∀ n e, sz (chS n e) = 2 * n + sz e
  | 0, e => by rw [chS]; omega
  | n + 1, e => by
    have := chS_sz n e
    simp only [chS, sz, szL]
    omega
theorem chS_dp : ∀ n e, dp (chS n e) = n + dp e
  | 0, e => by rw [chS]; omega
  | n + 1, e => by
    have := chS_dp n e
    have := dp_pos e
    simp only [chS, dp, dpL]
    omega
def flS : Nat → Sh
  | 0 => .c 0 []
  | n + 1 => .t [flS n, .v 1000000]
theorem flS_le : ∀ n, sz (flS n) = 1 + 2 * n ∧ dp (flS n) ≤ n + 1
  | 0 => ⟨rfl, Nat.le_refl _⟩
  | n + 1 => by
    have := flS_le n
    simp only [flS, sz, szL, dp, dpL]
    omega
theorem flS_app {σ : Int → Sh} {i : Sh} (e : σ 1000000 = i) : ∀ n, sz (app σ (flS n)) = 1 + n * (1 + sz i) ∧ dp (app σ (flS n)) ≤ n + dp i
  | 0 => by
    have := dp_pos i
    exact ⟨by simp [flS, app, appL, sz, szL], by simp [flS, app, appL, dp, dpL]; omega⟩
  | n + 1 => by
    have := flS_app e n
    simp only [flS, app, appL, sz, szL, dp, dpL, e]
    rw [Nat.succ_mul]
    omega
def inS : Nat → Sh
  | 0 => .c 0 []
  | n + 1 => .f (.t [.c 0 [], .c 1 []]) (inS n)
theorem inS_le : ∀ n, sz (inS n) = 1 + 4 * n ∧ dp (inS n) ≤ n + 2
  | 0 => ⟨rfl, by decide⟩
  | n + 1 => by
    have := inS_le n
    simp only [inS, sz, szL, dp, dpL]
    omega
theorem enc_plain : ∀ s : Sh, sz s ≤ 10000 → s.enc.plain = true := by
  have L : ∀ ss : List Sh, (∀ s ∈ ss, s.enc.plain = true) → D.plainL (Sh.encL ss) = true := by
    intro ss
    induction ss with
    | nil => intro _; rfl
    | cons s ss ih =>
      intro h
      rw [Sh.encL, D.plainL, h s (by simp), ih fun q hq => h q (by simp [hq])]
      rfl
  intro s
  induction s using Sh.ind with
  | h s ih =>
    intro hz
    have hk : ∀ q ∈ kids s, q.enc.plain = true := fun q hq => ih q hq (by have := sz_kid hq; omega)
    have kl := len_szL (kids s)
    have szk := sz_kids s
    cases s with
    | v n => rfl
    | c n ps =>
      have hl : (Sh.encL ps).length ≤ SL := by rw [encL_map, List.length_map]; unfold SL; simp only [kids] at kl szk; omega
      simp only [Sh.enc, D.plain, D.plainL, L ps hk, List.length_cons, List.length_nil, decide_eq_true hl, Bool.and_true]
      exact decide_eq_true (by unfold SL; omega)
    | t ps =>
      have hl : (Sh.encL ps).length ≤ SL := by rw [encL_map, List.length_map]; unfold SL; simp only [kids] at kl szk; omega
      simp only [Sh.enc, D.plain, D.plainL, L ps hk, List.length_cons, List.length_nil, decide_eq_true hl, Bool.and_true]
      exact decide_eq_true (by unfold SL; omega)
    | f a b =>
      simp only [Sh.enc, D.plain, D.plainL, hk a (by simp [kids]), hk b (by simp [kids]), List.length_cons, List.length_nil, Bool.and_true]
      exact decide_eq_true (by unfold SL; omega)
theorem sb_one {n : Int} {s : Sh} : sb [(n, s)] n = s := by
  unfold sb
  rw [look, if_pos rfl]
  rfl
section
variable {h : Hh} {f : Nat}
theorem chain_w {n : Nat} {e : Sh} (hn : n ≤ 200) : Sat (sem T (f + 1) 13 [.int ((n + 1 : Nat) : Int), e.enc] h) fun r h' => h' = h ∧ r = (chS n e).enc := by
  refine sat__law_chain ?_
  unfold b__law_chain
  repeat walk_at "pi"
  rw [show ((n + 1 : Nat) : Int) - 1 = ((n : Nat) : Int) by omega]
  refine ⟨⟨by omega, by omega⟩, ?_⟩
  refine Sat.forIx (fun i e' h' => h' = h ∧ ∃ v3, e' = [some (.int ((n + 1 : Nat) : Int)), some e.enc, some (chS i e).enc, v3]) ⟨rfl, _, rfl⟩ (fun _ _ _ _ => rfl) (fun i x e' h6 hd ⟨eh, v6, ee⟩ => ?_) fun e' h6 ⟨eh, v6, ee⟩ => ?_
  · subst eh ee
    repeat walk_at "pi"
    exact ⟨rfl, _, rfl⟩
  · subst eh ee
    rw [rng_len, Int.toNat_natCast]
    repeat walk_at "pi"
    exact ⟨rfl, rfl⟩
theorem flat_w {n : Nat} {e : Sh} (hn : n ≤ 200) : Sat (sem T (f + 1) 14 [.int (n : Nat), e.enc] h) fun r h' => h' = h ∧ r = (Sh.t [flS n, e]).enc := by
  refine sat__law_flat ?_
  unfold b__law_flat
  repeat walk_at "pi"
  refine ⟨⟨by omega, by omega⟩, ?_⟩
  refine Sat.forIx (fun i e' h' => h' = h ∧ ∃ v3, e' = [some (.int (n : Nat)), some e.enc, some (flS i).enc, v3]) ⟨rfl, _, rfl⟩ (fun _ _ _ _ => rfl) (fun i x e' h6 hd ⟨eh, v6, ee⟩ => ?_) fun e' h6 ⟨eh, v6, ee⟩ => ?_
  · subst eh ee
    repeat walk_at "pi"
    exact ⟨rfl, _, rfl⟩
  · subst eh ee
    rw [rng_len, Int.toNat_natCast]
    repeat walk_at "pi"
    exact ⟨rfl, rfl⟩
theorem same_w {a b : Sh} {d : Nat} (za : sz a ≤ 10000) (zb : sz b ≤ 10000) (da : dp a ≤ d) : Sat (sem T (f + 2 * d + 1) 5 [a.enc, b.enc] h) fun r h' => h' = h ∧ r = .bl (D.same a.enc b.enc) := by
  have := (flat_enc a).2
  exact same_ok hSame (f + 2 * d) a.enc b.enc h (enc_plain a za) (enc_plain b zb) (by omega)
theorem some_non (s : Sh) : PI.isN s.enc = some false := by cases s <;> rfl
theorem edge_w {t : Nat} (tp : Tp h t) : Sat (sem T 229 16 [.ref t] h) fun r _ => r = .bl true := by
  refine sat__law_edge (f := 228) ?_
  unfold b__law_edge
  repeat walk_at "pi"
  refine (pick (f := 227) tp (by decide)).mono fun r h1 ⟨eh, d, er, d0, d1⟩ => ?_
  subst eh er
  repeat walk_at "pi"
  refine ifK.d (fun c1 => ?_) fun c1 => ?_
  · repeat walk_at "pi"
    refine (pick (f := 227) tp (by decide)).mono fun r h2 ⟨eh, a, er, a0, a1⟩ => ?_
    subst eh er
    repeat walk_at "pi"
    refine (pick (f := 227) tp (by decide)).mono fun r h3 ⟨eh, b, er, b0, b1⟩ => ?_
    subst eh er
    obtain ⟨m, hm⟩ : ∃ m : Nat, 40 + a = ((m + 1 : Nat) : Int) := ⟨(39 + a).toNat, by omega⟩
    obtain ⟨n, hn⟩ : ∃ n : Nat, 40 + b = ((n + 1 : Nat) : Int) := ⟨(39 + b).toNat, by omega⟩
    repeat walk_at "pi"
    rw [hm, hn]
    rw [show ((m + 1 : Nat) : Int) + ((n + 1 : Nat) : Int) - 1 = ((m + n + 1 : Nat) : Int) by omega]
    refine (chain_w (f := 227) (e := .c 1 []) (n := m + n) (by omega)).mono fun r h4 ⟨eh, er⟩ => ?_
    subst eh er
    repeat walk_at "pi"
    refine (chain_w (f := 227) (e := .v 1000000) (n := m) (by omega)).mono fun r h5 ⟨eh, er⟩ => ?_
    subst eh er
    repeat walk_at "pi"
    refine (chain_w (f := 227) (e := .c 1 []) (n := n) (by omega)).mono fun r h6 ⟨eh, er⟩ => ?_
    subst eh er
    refine ⟨.i 1000000, rfl, ?_⟩
    repeat walk_at "pi"
    have ea : app (sb [(1000000, chS n (.c 1 []))]) (chS m (.v 1000000)) = chS (m + n) (.c 1 []) := by
      rw [chS_app, ← chS_add]
      rfl
    have z1 := chS_sz m (.v 1000000)
    have z2 := chS_sz (m + n) (.c 1 [])
    have d1 := chS_dp m (.v 1000000)
    have d2 := chS_dp (m + n) (.c 1 [])
    simp only [sz, szL, dp, dpL] at z1 z2 d1 d2
    refine (answer_w (d := 62) (f := 162) (h := h6 ++ [Ob.dk (kvD [(1000000, chS n (.c 1 []))])]) (by omega) at_push (by omega) (by rw [ea]; omega)).mono fun r h7 hr => ?_
    rw [ea] at hr
    repeat walk_at "pi"
    rw [show ((m + 1 : Nat) : Int) + ((n + 1 : Nat) : Int) - 1 = ((m + n + 1 : Nat) : Int) by omega]
    refine ifK.d (fun c2 => ?_) fun c2 => ?_
    · rcases hr with ⟨⟨_, hd⟩, _⟩ | ⟨_, er⟩
      · omega
      · subst er
        repeat walk_at "pi"
        rfl
    · rcases hr with ⟨_, er⟩ | ⟨hn, _⟩
      · subst er
        repeat walk_at "pi"
        refine (same_w (d := 110) (f := 7) (by omega) (by omega) (by omega)).mono fun r h8 ⟨eh, er⟩ => ?_
        subst eh er
        rw [D.same_refl]
        repeat walk_at "pi"
        rfl
      · exact absurd ⟨by omega, by omega⟩ hn
  · obtain ⟨k4, k40, k41, pk4⟩ := pickD tp 4 4 (by decide)
    repeat walk_at "pi"
    refine (pick (f := 227) tp (by decide)).mono fun r h2 ⟨eh, a, er, a0, a1⟩ => ?_
    subst eh er
    obtain ⟨p, hp⟩ : ∃ p : Nat, 19 + a = (p : Nat) := ⟨(19 + a).toNat, by omega⟩
    repeat walk_at "pi"
    rw [hp]
    refine (pk4 227 _ (Ext.refl _)).mono fun r h3 ⟨eh, er⟩ => ?_
    subst eh er
    obtain ⟨k, hk⟩ : ∃ k : Nat, 23 + k4 = (k : Nat) := ⟨(23 + k4).toNat, by omega⟩
    repeat walk_at "pi"
    rw [hk]
    refine ⟨⟨by omega, by omega⟩, ?_⟩
    refine Sat.forIx (fun i e' h' => h' = h3 ∧ ∃ v7, e' = [some (.ref t), none, none, none, none, some (.int (p : Nat)), some (inS i).enc, v7, none, none]) ⟨rfl, _, rfl⟩ (fun _ _ _ _ => rfl) (fun i x e' h6 hd ⟨eh, v6, ee⟩ => ?_) fun e' h6 ⟨eh, v6, ee⟩ => ?_
    · subst eh ee
      repeat walk_at "pi"
      exact ⟨rfl, _, rfl⟩
    · subst eh ee
      rw [rng_len, Int.toNat_natCast]
      repeat walk_at "pi"
      refine (pk4 227 _ (Ext.refl _)).mono fun r h3 ⟨eh, er⟩ => ?_
      subst eh er
      repeat walk_at "pi"
      rw [hk]
      refine Sat.mulI (mul_ok (by decide) (by omega)) ?_
      repeat walk_at "pi"
      rw [show 1 + 4 * ((k : Nat) : Int) = ((1 + 4 * k : Nat) : Int) by omega]
      refine Sat.mulI (mul_ok (by omega) (by omega)) ?_
      repeat walk_at "pi"
      rw [show ((2 : Int) + 1 + (p : Nat) + (p : Nat) * ((1 + 4 * k : Nat) : Int)) = ((3 + p + p * (1 + 4 * k) : Nat) : Int) by push_cast; omega]
      repeat walk_at "pi"
      refine (pick (f := 227) tp (by decide)).mono fun r h4 ⟨eh, g, er, g0, g1⟩ => ?_
      subst eh er
      have fin : ∀ (i : Sh) (tot : Nat) (v7 : Option D), tot = 3 + p + p * sz i → dp i ≤ 40 → tot ≤ 9000 → Sat ((sSeq (sAsg (dCallN (sem T 228) 15 2 (aCons (dCallN (sem T 228) 14 2 (aCons (dVar 5) (aCons (dTup (aCons (dC (.str s_c)) (aCons (dC (.int 4)) (aCons (dTup aNil) aNil)))) aNil))) (aCons (dDisp [((dC (.int 1000000)), (dVar 6))]) aNil))) (gNm 4))
 (sSeq (sIf (tV (dBin cGt (dVar 9) (dC (.int 2000))))
 (sRet (dUn cIsN (dVar 4)))
 sNil)
 (sRet (dUn cNotN (dVar 4))))) [some (.ref t), none, none, none, none, some (.int (p : Nat)), some i.enc, v7, some (.int ((1 + 4 * k : Nat) : Int)), some (.int (tot : Nat))] h4) (retK fun r _ => r = .bl true) := fun i tot v7 htot hdi ht => by
        repeat walk_at "pi"
        refine (flat_w (f := 227) (e := .c 4 []) (n := p) (by omega)).mono fun r h5 ⟨eh, er⟩ => ?_
        subst eh er
        repeat walk_at "pi"
        refine ⟨.i 1000000, rfl, ?_⟩
        repeat walk_at "pi"
        have fl := flS_le p
        have fa := flS_app (σ := sb [(1000000, i)]) (i := i) sb_one p
        have ez : sz (app (sb [(1000000, i)]) (.t [flS p, .c 4 []])) = tot := by
          simp only [app, appL, sz, szL, fa.1]
          rw [htot, Nat.mul_add, Nat.mul_one]
          omega
        have ed : dp (app (sb [(1000000, i)]) (.t [flS p, .c 4 []])) ≤ 100 := by
          simp only [app, appL, dp, dpL]
          omega
        refine (answer_w (d := 62) (f := 162) (h := h5 ++ [Ob.dk (kvD [(1000000, i)])]) (s := .t [flS p, .c 4 []]) (by simp only [dp, dpL]; omega) at_push (by simp only [sz, szL]; omega) (by omega)).mono fun r h7 hr => ?_
        rw [ez] at hr
        repeat walk_at "pi"
        refine ifK.d (fun c2 => ?_) fun c2 => ?_
        · rcases hr with ⟨⟨hd, _⟩, _⟩ | ⟨_, er⟩
          · omega
          · subst er
            repeat walk_at "pi"
            rfl
        · rcases hr with ⟨_, er⟩ | ⟨hn, _⟩
          · subst er
            repeat walk_at "pi"
            rfl
          · exact absurd ⟨by omega, ed⟩ hn
      have hi := inS_le k
      have pb : 19 ≤ p ∧ p ≤ 21 := by omega
      have kb : 23 ≤ k ∧ k ≤ 26 := by omega
      repeat walk_at "pi"
      refine ifK.d (fun c3 => ?_) fun c3 => ?_
      · repeat walk_at "pi"
        refine Sat.mulI (mul_ok (by decide) (by omega)) ?_
        walk_at "pi"
        walk_at "pi"
        walk_at "pi"
        rw [show (((3 + p + p * (1 + 4 * k) : Nat) : Int) + 2 * (p : Nat)) = ((3 + p + p * (1 + 4 * k) + 2 * p : Nat) : Int) by omega]
        have e0 : p * (1 + 4 * k + 2) = p * (1 + 4 * k) + 2 * p := by rw [Nat.mul_add p (1 + 4 * k) 2]; omega
        have bnd : p * (1 + 4 * k) ≤ 21 * 105 := Nat.mul_le_mul (by omega) (by omega)
        exact fin (.f (.c 0 []) (inS k)) _ _ (by simp only [sz, szL, hi.1]; rw [show 1 + (1 + 0 + (1 + 4 * k + 0)) = 1 + 4 * k + 2 by omega, e0]; omega) (by simp only [dp, dpL]; omega) (by omega)
      · have bnd : p * (1 + 4 * k) ≤ 21 * 105 := Nat.mul_le_mul (by omega) (by omega)
        walk_at "pi"
        walk_at "pi"
        exact fin (inS k) _ _ (by rw [hi.1]) (by omega) (by omega)
end
theorem lenK {h : Hh} {n : Nat} {kvs : List (Ky × D)} {Q : D → Hh → Prop} (e : h[n]? = some (.dk kvs)) (q : Q (.int kvs.length) h) : Sat (bLen [.ref n] h) Q := by
  simp only [bLen, e]
  exact .ok q
theorem look_nd : ∀ {ps : List (Int × Sh)}, (ps.map (·.1)).Nodup → ∀ p ∈ ps, look ps p.1 = some p.2
  | [], _, p, hp => by cases hp
  | (k, s) :: ps, nd, p, hp => by
    rw [List.map_cons] at nd
    obtain ⟨h1, h2⟩ := List.nodup_cons.mp nd
    rcases List.mem_cons.mp hp with rfl | hp
    · rw [look, if_pos rfl]
    · rw [look, if_neg, look_nd h2 p hp]
      intro e
      exact h1 (by rw [show (k, s).1 = k from rfl, e]; exact List.mem_map_of_mem hp)
theorem nd_range (n : Nat) : ((List.range n).map (fun (j : Nat) => (1000000 : Int) + j)).Nodup := by
  rw [List.nodup_iff_pairwise_ne, List.pairwise_map]
  exact List.nodup_range.imp fun h e => h (by omega)
theorem hTape : T 6 = ⟨8, 2, tape2B⟩ := rfl
def fr4 : List Int := [1000000, 1000001, 1000002, 1000009]
def fr3 : List Int := [1000000, 1000001, 1000002]
theorem sb_nil (s : Sh) : app (sb []) s = s := app_id s
theorem plain (ns : List Int) (hl : ns.length ≤ 63) (hb : ∀ z ∈ ns, z.natAbs.log2 < 1048576) : ∃ h', sem T 230 17 [.rl (ns.map D.int)] [] = .ok (.bl true) h' := by
  suffices s : Sat (sem T (229 + 1) 17 [.rl (ns.map D.int)] []) fun r _ => r = .bl true by
    obtain ⟨d, h', e, rfl⟩ := s
    exact ⟨h', e⟩
  refine sat_law ?_
  unfold b_law
  repeat walk_at "pi"
  refine (tape2_ok (f := 228) (m := 160) hTape hl hb (by decide)).mono fun r h1 ⟨t, ts, er, et, tl, x1, _⟩ => ?_
  subst er
  have tp : Tp h1 t := ⟨ts, by intro z; subst z; simp at tl, et⟩
  repeat walk_at "pi"
  refine (pick (f := 228) tp (by decide)).mono fun r h2 ⟨eh, d, er, d0, d1⟩ => ?_
  subst eh er
  repeat walk_at "pi"
  refine ifK.d (fun c => ?_) fun c => ?_
  · repeat walk_at "pi"
    refine (edge_w tp).mono fun r h3 er => ?_
    subst er
    repeat walk_at "pi"
    rfl
  · repeat walk_at "pi"
    refine (shape_w 3 223 (at_ := 7) (fr := fr4) (h := h2 ++ [Ob.lst [D.int 1000000, .int 1000001, .int 1000002, .int 1000009]]) (tp.ext Ext.push) at_push).mono fun r h3 ⟨x3, s, at_, er, ds⟩ => ?_
    subst er
    have tp3 := (tp.ext Ext.push).ext x3
    have zs : sz s ≤ 85 := ds.sz
    have dd := ds.dp
    repeat walk_at "pi"
    obtain ⟨N, hN⟩ : ∃ N, N = h3.length := ⟨_, rfl⟩
    rw [List.length_append, List.length_singleton, ← hN]
    have eN0 : (h3 ++ [Ob.lst []] ++ [Ob.dk []])[N]? = some (.lst []) := Ext.push.at (by rw [hN]; exact at_push)
    have eM0 : (h3 ++ [Ob.lst []] ++ [Ob.dk []])[N + 1]? = some (.dk (kvD [])) := by
      rw [show N + 1 = (h3 ++ [Ob.lst []]).length by simp [hN]]
      exact at_push
    have tp4 := (tp3.ext (Ext.push (o := Ob.lst []))).ext (Ext.push (o := Ob.dk []))
    have x4 : Ext h3 (h3 ++ [Ob.lst []] ++ [Ob.dk []]) := Ext.push.trans Ext.push
    have hNt : t < N := by
      obtain ⟨_, _, g⟩ := tp3
      rw [hN]
      exact lt_of_at g
    generalize h3 ++ [Ob.lst []] ++ [Ob.dk []] = h4 at eN0 eM0 tp4 x4 ⊢
    refine (pick (f := 228) tp4 (by decide)).mono fun r h5 ⟨eh, e, er, e0, e1⟩ => ?_
    subst eh er
    obtain ⟨n, hn⟩ : ∃ n : Nat, 1 + e = (n : Nat) := ⟨(1 + e).toNat, by omega⟩
    repeat walk_at "pi"
    rw [hn]
    refine ⟨⟨by omega, by omega⟩, ?_⟩
    refine Sat.forIx (fun i e h' => Tp h' t ∧ ∃ (ps : List (Int × Sh)) (at' : Int) (v6 v7 : Option D), ps.map (·.1) = (List.range i).map (fun (j : Nat) => (1000000 : Int) + j) ∧ (∀ p ∈ ps, Dr fr3 2 p.2) ∧ h'[N]? = some (.lst (ps.map prP)) ∧ h'[N + 1]? = some (.dk (kvD ps)) ∧ e = [some (.rl (ns.map D.int)), some (.ref t), some s.enc, some (.int at'), some (.ref N), some (.ref (N + 1)), v6, v7, none, none]) ⟨tp4, [], _, _, _, rfl, (fun p hp => (by cases hp)), eN0, eM0, rfl⟩ (fun _ _ _ _ => rfl) (fun i x e' h7 hd ⟨tp7, ps, at', v8, v9, hk, hps, eN, eM, ee⟩ => ?_) fun e' h7 ⟨tp7, ps, at', v8, v9, hk, hps, eN, eM, ee⟩ => ?_
    · subst ee
      obtain ⟨hi, rfl⟩ := rng_at hd
      rw [Int.toNat_natCast] at hi
      rw [Int.zero_add]
      have pl : ps.length = i := by
        have := congrArg List.length hk
        simpa using this
      have nin : (1000000 : Int) + (i : Nat) ∉ ps.map (·.1) := by
        rw [hk]
        simp
        intro j hj e
        omega
      repeat walk_at "pi"
      refine (shape_w 2 224 (h := h7 ++ [Ob.lst [D.int 1000000, .int 1000001, .int 1000002]]) (fr := fr3) (tp7.ext Ext.push) at_push).mono fun r h8 ⟨x8, p, at8, er, dp8⟩ => ?_
      subst er
      have tp8 := (tp7.ext Ext.push).ext x8
      have eN8 := (Ext.push.trans x8).at eN
      have eM8 := (Ext.push.trans x8).at eM
      repeat walk_at "pi"
      refine lsK.mk eN8 ?_
      repeat walk_at "pi"
      refine Sat.append eN8 (by simp; unfold SL; omega) ?_
      have eN9 := at_set (o := Ob.lst (ps.map prP ++ [.tup [.int (1000000 + (i : Nat)), p.enc]])) eN8
      have eM9 : (h8.set N (Ob.lst (ps.map prP ++ [.tup [.int (1000000 + (i : Nat)), p.enc]])))[N + 1]? = some (.dk (kvD ps)) := by rw [List.getElem?_set_ne (by omega)]; exact eM8
      have tp9 : Tp (h8.set N (Ob.lst (ps.map prP ++ [.tup [.int (1000000 + (i : Nat)), p.enc]]))) t := by
        obtain ⟨ts, g1, g2⟩ := tp8
        exact ⟨ts, g1, by rw [List.getElem?_set_ne (by omega)]; exact g2⟩
      generalize h8.set N (Ob.lst (ps.map prP ++ [.tup [.int (1000000 + (i : Nat)), p.enc]])) = h9 at eN9 eM9 tp9 ⊢
      repeat walk_at "pi"
      refine dkK.mk eM9 ⟨by simp [kvD]; unfold SL; omega, ?_⟩
      rw [set_kvD nin]
      refine ⟨?_, ps ++ [((1000000 : Int) + (i : Nat), p)], at8, _, _, ?_, fun q hq => ?_, ?_, at_set eM9, rfl⟩
      · obtain ⟨ts, g1, g2⟩ := tp9
        exact ⟨ts, g1, by rw [List.getElem?_set_ne (by omega)]; exact g2⟩
      · rw [List.map_append, hk, List.range_succ, List.map_append]
        rfl
      · rcases List.mem_append.mp hq with z | z
        · exact hps q z
        · rw [List.mem_singleton.mp z]
          exact dp8
      · rw [List.getElem?_set_ne (by omega), eN9, List.map_append]
        rfl
    · subst ee
      rw [rng_len, Int.toNat_natCast] at hk
      have pl : ps.length = n := by
        have := congrArg List.length hk
        simpa using this
      have b2 : SzB 2 = 21 := rfl
      have sbl : ∀ n, sz (sb ps n) ≤ 21 ∧ dp (sb ps n) ≤ 2 + 1 := fun n => by
        by_cases c : n ∈ ps.map (·.1)
        · obtain ⟨q, g1, g2⟩ := look_some c
          rw [sb, g1]
          exact ⟨(hps _ g2).sz, (hps _ g2).dp⟩
        · rw [sb, look_none c]
          simp [sz, dp]
      have aT : All (fun _ => True) (fun _ => True) s := ds.ok.imp (fun _ _ => trivial) fun _ _ => trivial
      have z2 : sz (app (sb ps) s) ≤ sz s * 21 := sz_app (p := fun _ => True) (q := fun _ => True) (fun n _ => (sbl n).1) (by omega) aT
      have d2 : dp (app (sb ps) s) ≤ dp s + 2 := dp_app (p := fun _ => True) (q := fun _ => True) (fun n _ => (sbl n).2) aT
      repeat walk_at "pi"
      refine (subst_ok (d := 20) (f := 206) (by omega) eM (by omega) (by omega) (by omega)).mono fun r h8 ⟨x8, er⟩ => ?_
      subst er
      have eN8 := x8.at eN
      have eM8 := x8.at eM
      repeat walk_at "pi"
      refine (subst_ok (d := 20) (f := 206) (ps := []) (h := h8 ++ [Ob.dk []]) (M := h8.length) (by omega) at_push (by omega) (by rw [sb_nil]; omega) (by rw [sb_nil]; omega)).mono fun r h9 ⟨x9, er⟩ => ?_
      subst er
      rw [sb_nil]
      have eN9 := (Ext.push.trans x9).at eN8
      have eM9 := (Ext.push.trans x9).at eM8
      repeat walk_at "pi"
      refine (same_w (d := 20) (f := 188) (by omega) (by omega) (by omega)).mono fun r h10 ⟨eh, er⟩ => ?_
      subst eh er
      rw [D.same_refl]
      repeat walk_at "pi"
      refine (appl_w 20 (f := 207) (s := s) (by omega) eN9 (by omega)).mono fun r h11 ⟨x11, er⟩ => ?_
      subst er
      have eN11 := x11.at eN9
      have eM11 := x11.at eM9
      repeat walk_at "pi"
      refine (same_w (d := 20) (f := 188) (by omega) (by omega) (by omega)).mono fun r h12 ⟨eh, er⟩ => ?_
      subst eh er
      rw [D.same_refl]
      repeat walk_at "pi"
      refine lenK eM11 ?_
      repeat walk_at "pi"
      refine Sat.lenL eN11 ?_
      repeat walk_at "pi"
      rw [show (kvD ps).length = (ps.map prP).length by simp [kvD], decide_eq_true rfl]
      repeat walk_at "pi"
      refine wsK.lst eN11 ?_
      refine Sat.forIx (fun i e h' => h' = h12 ∧ ∃ v7 v9, e = [some (.rl (ns.map D.int)), some (.ref t), some s.enc, some (.int at'), some (.ref N), some (.ref (N + 1)), v8, v7, some (app (sb ps) s).enc, v9]) ⟨rfl, _, _, rfl⟩ (fun _ _ h' ⟨eh, _⟩ => Wk.still_lst (by subst eh; simp only [lstAt, eN11])) (fun i x e h13 hd2 ⟨eh, v7, v9, ee⟩ => ?_) fun e h13 ⟨eh, v7, v9, ee⟩ => ?_
      · subst eh ee
        rw [Wk.items, List.getElem?_map] at hd2
        cases gk : ps[i]? with
        | none => rw [gk] at hd2; cases hd2
        | some p =>
          rw [gk] at hd2
          cases hd2
          have hp := List.mem_of_getElem? gk
          have lk : look ps p.1 = some p.2 := look_nd (by rw [hk]; exact nd_range n) p hp
          have dpp := (hps p hp).dp
          unfold prP
          repeat walk_at "pi"
          refine dkK.mk eM11 ⟨p.2.enc, by rw [val_kvD, lk]; rfl, ?_⟩
          repeat walk_at "pi"
          refine neSh (by omega) (by omega) ?_
          rw [decide_eq_true rfl]
          repeat walk_at "pi"
          exact ⟨rfl, _, _, rfl⟩
      · subst eh ee
        repeat walk_at "pi"
        rfl
end K11
/-! ## Wlk_K11 -/
set_option Elab.async false
set_option linter.all false
set_option maxRecDepth 100000
set_option maxHeartbeats 4000000
set_option autoImplicit false
/-! derivations of shapewright_k11_substitution; printed by gen.py -/
namespace K11
open PySem L2 PI
def topS (i : Nat) : Stmt := PySem.Challenge.pw_shapewright_k11_substitution.main.body.getD i (.Pass ⟨0, 0, 0, 0⟩)
abbrev st_direct_parts : Stmt := topS 6
abbrev st_with_parts : Stmt := topS 7
abbrev st_within_bounds : Stmt := topS 8
abbrev st_replace_variables : Stmt := topS 9
abbrev st_substitute : Stmt := topS 10
abbrev st__law_same : Stmt := topS 12
abbrev st__law_tape : Stmt := topS 13
abbrev st__law_pick : Stmt := topS 14
abbrev st__law_leaf : Stmt := topS 15
abbrev st__law_shape : Stmt := topS 16
abbrev st__law_parts : Stmt := topS 17
abbrev st__law_rebuilt : Stmt := topS 18
abbrev st__law_apply : Stmt := topS 19
abbrev st__law_chain : Stmt := topS 20
abbrev st__law_flat : Stmt := topS 21
abbrev st__law_answer : Stmt := topS 22
abbrev st__law_edge : Stmt := topS 23
abbrev st_law : Stmt := topS 24
theorem sc_direct_parts : FnScope ["shape"] ["shape"] (defScope st_direct_parts) := ⟨rfl, rfl, rfl, by decide +kernel, rfl, by decide +kernel, by decide +kernel⟩
theorem sc_with_parts : FnScope ["shape", "new_parts"] ["shape", "new_parts"] (defScope st_with_parts) := ⟨rfl, rfl, rfl, by decide +kernel, rfl, by decide +kernel, by decide +kernel⟩
theorem sc_within_bounds : FnScope ["shape", "waiting", "many", "node", "level", "part"] ["shape"] (defScope st_within_bounds) := ⟨rfl, rfl, rfl, by decide +kernel, rfl, by decide +kernel, by decide +kernel⟩
theorem sc_replace_variables : FnScope ["shape", "mapping", "new_parts", "part"] ["shape", "mapping"] (defScope st_replace_variables) := ⟨rfl, rfl, rfl, by decide +kernel, rfl, by decide +kernel, by decide +kernel⟩
theorem sc_substitute : FnScope ["shape", "mapping", "result"] ["shape", "mapping"] (defScope st_substitute) := ⟨rfl, rfl, rfl, by decide +kernel, rfl, by decide +kernel, by decide +kernel⟩
theorem sc__law_same : FnScope ["a", "b", "k", "key"] ["a", "b"] (defScope st__law_same) := ⟨rfl, rfl, rfl, by decide +kernel, rfl, by decide +kernel, by decide +kernel⟩
theorem sc__law_tape : FnScope ["script", "many", "cells", "cell", "big", "value", "tape", "k"] ["script", "many"] (defScope st__law_tape) := ⟨rfl, rfl, rfl, by decide +kernel, rfl, by decide +kernel, by decide +kernel⟩
theorem sc__law_pick : FnScope ["tape", "at", "many"] ["tape", "at", "many"] (defScope st__law_pick) := ⟨rfl, rfl, rfl, by decide +kernel, rfl, by decide +kernel, by decide +kernel⟩
theorem sc__law_leaf : FnScope ["tape", "at", "free", "pick"] ["tape", "at", "free"] (defScope st__law_leaf) := ⟨rfl, rfl, rfl, by decide +kernel, rfl, by decide +kernel, by decide +kernel⟩
theorem sc__law_shape : FnScope ["tape", "at", "level", "free", "pick", "left", "right", "inner", "parts", "many", "k", "part"] ["tape", "at", "level", "free"] (defScope st__law_shape) := ⟨rfl, rfl, rfl, by decide +kernel, rfl, by decide +kernel, by decide +kernel⟩
theorem sc__law_parts : FnScope ["shape"] ["shape"] (defScope st__law_parts) := ⟨rfl, rfl, rfl, by decide +kernel, rfl, by decide +kernel, by decide +kernel⟩
theorem sc__law_rebuilt : FnScope ["shape", "parts"] ["shape", "parts"] (defScope st__law_rebuilt) := ⟨rfl, rfl, rfl, by decide +kernel, rfl, by decide +kernel, by decide +kernel⟩
theorem sc__law_apply : FnScope ["shape", "pairs", "number", "due", "part"] ["shape", "pairs"] (defScope st__law_apply) := ⟨rfl, rfl, rfl, by decide +kernel, rfl, by decide +kernel, by decide +kernel⟩
theorem sc__law_chain : FnScope ["level", "end", "shape", "k"] ["level", "end"] (defScope st__law_chain) := ⟨rfl, rfl, rfl, by decide +kernel, rfl, by decide +kernel, by decide +kernel⟩
theorem sc__law_flat : FnScope ["pieces", "rest", "shape", "k"] ["pieces", "rest"] (defScope st__law_flat) := ⟨rfl, rfl, rfl, by decide +kernel, rfl, by decide +kernel, by decide +kernel⟩
theorem sc__law_answer : FnScope ["shape", "mapping"] ["shape", "mapping"] (defScope st__law_answer) := ⟨rfl, rfl, rfl, by decide +kernel, rfl, by decide +kernel, by decide +kernel⟩
theorem sc__law_edge : FnScope ["tape", "first", "second", "due", "actual", "pieces", "inner", "k", "many", "total"] ["tape"] (defScope st__law_edge) := ⟨rfl, rfl, rfl, by decide +kernel, rfl, by decide +kernel, by decide +kernel⟩
theorem sc_law : FnScope ["script", "tape", "shape", "at", "pairs", "mapping", "k", "due", "actual", "number"] ["script"] (defScope st_law) := ⟨rfl, rfl, rfl, by decide +kernel, rfl, by decide +kernel, by decide +kernel⟩
structure Tx (K : PySem.W.Frag) (mg : Str → Option Value) : Prop where
  m_abs : mg "abs" = none
  m_all : mg "all" = none
  m_bool : mg "bool" = none
  m_dict : mg "dict" = none
  m_int : mg "int" = none
  m_isinstance : mg "isinstance" = none
  m_len : mg "len" = none
  m_list : mg "list" = none
  m_max : mg "max" = none
  m_range : mg "range" = none
  m_str : mg "str" = none
  m_tuple : mg "tuple" = none
  c_MAX_SIZE : Kon K mg "MAX_SIZE" g_MAX_SIZE
  c_MAX_DEPTH : Kon K mg "MAX_DEPTH" g_MAX_DEPTH
  g_TooLarge : mg "TooLarge" = some (.ref (He.ga K "TooLarge"))
  x_TooLarge : ExcOk K (He.ga K "TooLarge")
  e_TooLarge_TooLarge : PySem.W.exmOne K (.ref (He.ga K "TooLarge")) (.ref (He.ga K "TooLarge")) = some true
def cmT (K : PySem.W.Frag) : Nat → Value
  | 0 => .ref (He.ga K "TooLarge")
  | _ => .none
section
variable {P : Program} {w : World} {K : PySem.W.Frag} {mg : Str → Option Value} {base : Heap} {G : Gx} {n : Nat} {c : Cal}
theorem Tx.e_TooLarge (T : Tx K mg) (hX : G.cm = cmT K) : ∀ c, c < 1 → PySem.W.exmOne K (G.cm c) (.ref (He.ga K "TooLarge")) = some (decide (c = 0)) := by
  rw [hX]
  intro c hc
  match c, hc with
  | 0, _ => exact T.e_TooLarge_TooLarge
theorem Tx.g_MAX_SIZE {X : Cx} {W : WX} {p : Pos} (T : Tx K X.mg) (hK : G.K = K := by rfl) (hg : Gl X "MAX_SIZE" := by rfl) : PE X (.Name "MAX_SIZE" p) (tI G W (dC g_MAX_SIZE)) := ie_kon T.c_MAX_SIZE hK hg (by decide)
theorem Tx.g_MAX_DEPTH {X : Cx} {W : WX} {p : Pos} (T : Tx K X.mg) (hK : G.K = K := by rfl) (hg : Gl X "MAX_DEPTH" := by rfl) : PE X (.Name "MAX_DEPTH" p) (tI G W (dC g_MAX_DEPTH)) := ie_kon T.c_MAX_DEPTH hK hg (by decide)
/-- the defs, called with room for n calls -/
structure Cs (P : Program) (w : World) (K : PySem.W.Frag) (mg : Str → Option Value) (base : Heap) (G : Gx) (n : Nat) (c : Cal) : Prop where
  c0 : CalOk P w K mg base G n "direct_parts" 1 (c 0)
  c1 : CalOk P w K mg base G n "with_parts" 2 (c 1)
  c2 : CalOk P w K mg base G n "within_bounds" 1 (c 2)
  c3 : CalOk P w K mg base G n "replace_variables" 2 (c 3)
  c4 : CalOk P w K mg base G n "substitute" 2 (c 4)
  c5 : CalOk P w K mg base G n "_law_same" 2 (c 5)
  c6 : CalOk P w K mg base G n "_law_tape" 2 (c 6)
  c7 : CalOk P w K mg base G n "_law_pick" 3 (c 7)
  c8 : CalOk P w K mg base G n "_law_leaf" 3 (c 8)
  c9 : CalOk P w K mg base G n "_law_shape" 4 (c 9)
  c10 : CalOk P w K mg base G n "_law_parts" 1 (c 10)
  c11 : CalOk P w K mg base G n "_law_rebuilt" 2 (c 11)
  c12 : CalOk P w K mg base G n "_law_apply" 2 (c 12)
  c13 : CalOk P w K mg base G n "_law_chain" 2 (c 13)
  c14 : CalOk P w K mg base G n "_law_flat" 2 (c 14)
  c15 : CalOk P w K mg base G n "_law_answer" 2 (c 15)
  c16 : CalOk P w K mg base G n "_law_edge" 1 (c 16)
  c17 : CalOk P w K mg base G n "law" 1 (c 17)
theorem d_direct_parts (hK : G.K = K) (hX : G.cm = cmT K) (T : Tx K mg) (C : Cs P w K mg base G n c) (f : Addr) (cdv : Value) (A : Around) (outer : List Env) (s : Shared) (H : Hp) (E : XK)
    (hr : Room n (A.deeper (PyProof.Rows.envOfC "direct_parts" (defScope st_direct_parts) s.heap.objs.size f cdv))) :
    PSs (cxOf (L2.CX P w) P w K mg base ["shape"] "direct_parts" (defScope st_direct_parts) f cdv A outer s H E) (defBody st_direct_parts) (tS G (fun cls d _ H => E cls d H) (b_direct_parts c)) := by
  subst hK
  have sc_nd := sc_direct_parts.nd
  have tk : Takes (cxOf (L2.CX P w) P w G.K mg base ["shape"] "direct_parts" (defScope st_direct_parts) f cdv A outer s H E) (fun cls d _ H => E cls d H) := takes_of rfl rfl rfl rfl
  have po := passes_of (X := cxOf (L2.CX P w) P w G.K mg base ["shape"] "direct_parts" (defScope st_direct_parts) f cdv A outer s H E) rfl
  exact
 (iss_cons (is_if (it_cmp (os_eq rfl (hu190 hr)) (ie_ix rfl (ie_var 0) ie_int) (ie_str (s := s_v)))
 (iss_one (is_ret (ie_tup ia_nil)))
 iss_nil)
 (iss_cons (is_if (it_cmp (os_eq rfl (hu190 hr)) (ie_ix rfl (ie_var 0) ie_int) (ie_str (s := s_c)))
 (iss_one (is_ret (ie_ix rfl (ie_var 0) ie_int)))
 iss_nil)
 (iss_cons (is_if (it_cmp (os_eq rfl (hu190 hr)) (ie_ix rfl (ie_var 0) ie_int) (ie_str (s := s_t)))
 (iss_one (is_ret (ie_ix rfl (ie_var 0) ie_int)))
 iss_nil)
 (iss_one (is_ret (ie_tup (ia_cons (ie_ix rfl (ie_var 0) ie_int) (ia_cons (ie_ix rfl (ie_var 0) ie_int) ia_nil))))))))
theorem d_with_parts (hK : G.K = K) (hX : G.cm = cmT K) (T : Tx K mg) (C : Cs P w K mg base G n c) (f : Addr) (cdv : Value) (A : Around) (outer : List Env) (s : Shared) (H : Hp) (E : XK)
    (hr : Room n (A.deeper (PyProof.Rows.envOfC "with_parts" (defScope st_with_parts) s.heap.objs.size f cdv))) :
    PSs (cxOf (L2.CX P w) P w K mg base ["shape", "new_parts"] "with_parts" (defScope st_with_parts) f cdv A outer s H E) (defBody st_with_parts) (tS G (fun cls d _ H => E cls d H) (b_with_parts c)) := by
  subst hK
  have sc_nd := sc_with_parts.nd
  have tk : Takes (cxOf (L2.CX P w) P w G.K mg base ["shape", "new_parts"] "with_parts" (defScope st_with_parts) f cdv A outer s H E) (fun cls d _ H => E cls d H) := takes_of rfl rfl rfl rfl
  have po := passes_of (X := cxOf (L2.CX P w) P w G.K mg base ["shape", "new_parts"] "with_parts" (defScope st_with_parts) f cdv A outer s H E) rfl
  exact
 (iss_cons (is_if (it_cmp (os_eq rfl (hu190 hr)) (ie_ix rfl (ie_var 0) ie_int) (ie_str (s := s_v)))
 (iss_one (is_ret (ie_var 0)))
 iss_nil)
 (iss_cons (is_if (it_cmp (os_eq rfl (hu190 hr)) (ie_ix rfl (ie_var 0) ie_int) (ie_str (s := s_c)))
 (iss_one (is_ret (ie_tup (ia_cons (ie_str (s := s_c)) (ia_cons (ie_ix rfl (ie_var 0) ie_int) (ia_cons (ie_var 1) ia_nil))))))
 iss_nil)
 (iss_cons (is_if (it_cmp (os_eq rfl (hu190 hr)) (ie_ix rfl (ie_var 0) ie_int) (ie_str (s := s_t)))
 (iss_one (is_ret (ie_tup (ia_cons (ie_str (s := s_t)) (ia_cons (ie_var 1) ia_nil)))))
 iss_nil)
 (iss_one (is_ret (ie_tup (ia_cons (ie_str (s := s_f)) (ia_cons (ie_ix rfl (ie_var 1) ie_int) (ia_cons (ie_ix rfl (ie_var 1) ie_int) ia_nil)))))))))
theorem d_within_bounds (hK : G.K = K) (hX : G.cm = cmT K) (T : Tx K mg) (C : Cs P w K mg base G n c) (f : Addr) (cdv : Value) (A : Around) (outer : List Env) (s : Shared) (H : Hp) (E : XK)
    (hr : Room n (A.deeper (PyProof.Rows.envOfC "within_bounds" (defScope st_within_bounds) s.heap.objs.size f cdv))) :
    PSs (cxOf (L2.CX P w) P w K mg base ["shape", "waiting", "many", "node", "level", "part"] "within_bounds" (defScope st_within_bounds) f cdv A outer s H E) (defBody st_within_bounds) (tS G (fun cls d _ H => E cls d H) (b_within_bounds c)) := by
  subst hK
  have sc_nd := sc_within_bounds.nd
  have tk : Takes (cxOf (L2.CX P w) P w G.K mg base ["shape", "waiting", "many", "node", "level", "part"] "within_bounds" (defScope st_within_bounds) f cdv A outer s H E) (fun cls d _ H => E cls d H) := takes_of rfl rfl rfl rfl
  have po := passes_of (X := cxOf (L2.CX P w) P w G.K mg base ["shape", "waiting", "many", "node", "level", "part"] "within_bounds" (defScope st_within_bounds) f cdv A outer s H E) rfl
  exact
 (iss_cons (is_set 1 sc_nd (ie_lst (ia_cons (ie_tup (ia_cons (ie_var 0) (ia_cons ie_int ia_nil))) ia_nil)))
 (iss_cons (is_set 2 sc_nd ie_int)
 (iss_cons (is_while po (it_truth rfl (ie_var 1))
 (iss_cons (is_asg (ie_bm0 rfl ms_pop PySem.F.slot_list_pop PySem.F.type_list_pop (ie_var 1)) (ig_tup 2 rfl rfl (igs_cons 3 (ig_name 3 sc_nd) (igs_cons 4 (ig_name 4 sc_nd) igs_nil calm_nil) (calm_cons calm_nil))))
 (iss_cons (is_aug 2 ip_add' sc_nd ie_int)
 (iss_cons (is_if (PW.pt (iw_or (it_cmp os_gt (ie_var 2) T.g_MAX_SIZE) (iw_or1 (it_cmp os_gt (ie_var 4) T.g_MAX_DEPTH))))
 (iss_one (is_ret ie_bl))
 iss_nil)
 (iss_one (is_for po rfl (iw_seq rfl (ie_call (C.c0) hr tk (ia_cons (ie_var 3) ia_nil))) (ig_name 5 sc_nd)
 (iss_one (is_expr (ie_bm rfl ms_append PySem.F.slot_list_append PySem.F.type_list_append (ie_var 1) (ia_cons (ie_tup (ia_cons (ie_var 5) (ia_cons (ie_op (os_add rfl) (ie_var 4) ie_int) ia_nil))) ia_nil))))))))))
 (iss_one (is_ret ie_bl)))))
theorem d_replace_variables (hK : G.K = K) (hX : G.cm = cmT K) (T : Tx K mg) (C : Cs P w K mg base G n c) (f : Addr) (cdv : Value) (A : Around) (outer : List Env) (s : Shared) (H : Hp) (E : XK)
    (hr : Room n (A.deeper (PyProof.Rows.envOfC "replace_variables" (defScope st_replace_variables) s.heap.objs.size f cdv))) :
    PSs (cxOf (L2.CX P w) P w K mg base ["shape", "mapping", "new_parts", "part"] "replace_variables" (defScope st_replace_variables) f cdv A outer s H E) (defBody st_replace_variables) (tS G (fun cls d _ H => E cls d H) (b_replace_variables c)) := by
  subst hK
  have sc_nd := sc_replace_variables.nd
  have tk : Takes (cxOf (L2.CX P w) P w G.K mg base ["shape", "mapping", "new_parts", "part"] "replace_variables" (defScope st_replace_variables) f cdv A outer s H E) (fun cls d _ H => E cls d H) := takes_of rfl rfl rfl rfl
  have po := passes_of (X := cxOf (L2.CX P w) P w G.K mg base ["shape", "mapping", "new_parts", "part"] "replace_variables" (defScope st_replace_variables) f cdv A outer s H E) rfl
  exact
 (iss_cons (is_if (it_cmp (os_eq rfl (hu190 hr)) (ie_ix rfl (ie_var 0) ie_int) (ie_str (s := s_v)))
 (iss_one (is_ret (ie_get2 (hu_of hr) (ie_var 1) (ie_ix rfl (ie_var 0) ie_int) (ie_var 0))))
 iss_nil)
 (iss_cons (is_set 2 sc_nd (ie_tupC rfl rfl sc_nd (CompOk.mk (own := [("part", 3)]) ⟨_, gv_name _ 3, fun _ _ _ _ _ => pg_name (i := 3) sc_nd rfl (by first | exact .inl rfl | exact .inr rfl)⟩ (iw_seq rfl (ie_call (C.c0) hr tk (ia_cons (ie_var 0) ia_nil))) (blkOk_by (show blkC ["shape", "mapping", "new_parts", "part"] (defScope st_replace_variables) _ _ = true by decide +kernel)) (fun _ _ _ _ _ => its_nil) (fun _ _ _ _ _ => (ie_call (C.c3) hr takes0 (ia_cons (ie_var 3) (ia_cons (ie_var 1) ia_nil)))) (by intro _; rfl)) T.m_tuple))
 (iss_one (is_ret (ie_call (C.c1) hr tk (ia_cons (ie_var 0) (ia_cons (ie_var 2) ia_nil)))))))
theorem d_substitute (hK : G.K = K) (hX : G.cm = cmT K) (T : Tx K mg) (C : Cs P w K mg base G n c) (f : Addr) (cdv : Value) (A : Around) (outer : List Env) (s : Shared) (H : Hp) (E : XK)
    (hr : Room n (A.deeper (PyProof.Rows.envOfC "substitute" (defScope st_substitute) s.heap.objs.size f cdv))) :
    PSs (cxOf (L2.CX P w) P w K mg base ["shape", "mapping", "result"] "substitute" (defScope st_substitute) f cdv A outer s H E) (defBody st_substitute) (tS G (fun cls d _ H => E cls d H) (b_substitute c)) := by
  subst hK
  have sc_nd := sc_substitute.nd
  have tk : Takes (cxOf (L2.CX P w) P w G.K mg base ["shape", "mapping", "result"] "substitute" (defScope st_substitute) f cdv A outer s H E) (fun cls d _ H => E cls d H) := takes_of rfl rfl rfl rfl
  have po := passes_of (X := cxOf (L2.CX P w) P w G.K mg base ["shape", "mapping", "result"] "substitute" (defScope st_substitute) f cdv A outer s H E) rfl
  exact
 (iss_cons (is_set 2 sc_nd (ie_call (C.c3) hr tk (ia_cons (ie_var 0) (ia_cons (ie_var 1) ia_nil))))
 (iss_cons (is_if (it_not (it_truth rfl (ie_call (C.c2) hr tk (ia_cons (ie_var 2) ia_nil))))
 (iss_one (is_raise 0 rfl tk T.x_TooLarge T.g_TooLarge (congrFun hX 0)))
 iss_nil)
 (iss_one (is_ret (ie_var 2)))))
theorem d__law_same (hK : G.K = K) (hX : G.cm = cmT K) (T : Tx K mg) (C : Cs P w K mg base G n c) (f : Addr) (cdv : Value) (A : Around) (outer : List Env) (s : Shared) (H : Hp) (E : XK)
    (hr : Room n (A.deeper (PyProof.Rows.envOfC "_law_same" (defScope st__law_same) s.heap.objs.size f cdv))) :
    PSs (cxOf (L2.CX P w) P w K mg base ["a", "b", "k", "key"] "_law_same" (defScope st__law_same) f cdv A outer s H E) (defBody st__law_same) (tS G (fun cls d _ H => E cls d H) (b__law_same c)) := by
  subst hK
  have sc_nd := sc__law_same.nd
  have tk : Takes (cxOf (L2.CX P w) P w G.K mg base ["a", "b", "k", "key"] "_law_same" (defScope st__law_same) f cdv A outer s H E) (fun cls d _ H => E cls d H) := takes_of rfl rfl rfl rfl
  have po := passes_of (X := cxOf (L2.CX P w) P w G.K mg base ["a", "b", "k", "key"] "_law_same" (defScope st__law_same) f cdv A outer s H E) rfl
  exact
 (iss_cons (is_if (PW.pt (iw_or (PW.pt (iw_and (it_truth rfl (ie_isA .tuple rfl (ie_var 0) T.m_isinstance T.m_tuple)) (iw_and1 (it_truth rfl (ie_isA .tuple rfl (ie_var 1) T.m_isinstance T.m_tuple))))) (iw_or1 (PW.pt (iw_and (it_truth rfl (ie_isA .list rfl (ie_var 0) T.m_isinstance T.m_list)) (iw_and1 (it_truth rfl (ie_isA .list rfl (ie_var 1) T.m_isinstance T.m_list))))))))
 (iss_one (is_ret (ie_and rfl (ie_cmp (os_eq rfl (hu190 hr)) (ie_callB (cs_len rfl) (by rfl) T.m_len (by decide +kernel) (ia_cons (ie_var 0) ia_nil)) (ie_callB (cs_len rfl) (by rfl) T.m_len (by decide +kernel) (ia_cons (ie_var 1) ia_nil))) (ie_one (ie_allC rfl rfl sc_nd (CompOk.mk (own := [("k", 2)]) ⟨_, gv_name _ 2, fun _ _ _ _ _ => pg_name (i := 2) sc_nd rfl (by first | exact .inl rfl | exact .inr rfl)⟩ (iw_rng1 (ie_callB (cs_len rfl) (by rfl) T.m_len (by decide +kernel) (ia_cons (ie_var 0) ia_nil)) T.m_range) (blkOk_by (show blkC ["a", "b", "k", "key"] (defScope st__law_same) _ _ = true by decide +kernel)) (fun _ _ _ _ _ => its_nil) (fun _ _ _ _ _ => (ie_call (C.c5) hr takes0 (ia_cons (ie_ix rfl (ie_var 0) (ie_var 2)) (ia_cons (ie_ix rfl (ie_var 1) (ie_var 2)) ia_nil)))) (by intro _; rfl)) T.m_all)))))
 iss_nil)
 (iss_cons (is_if (PW.pt (iw_and (it_truth rfl (ie_isA .dict rfl (ie_var 0) T.m_isinstance T.m_dict)) (iw_and1 (it_truth rfl (ie_isA .dict rfl (ie_var 1) T.m_isinstance T.m_dict)))))
 (iss_one (is_ret (ie_and rfl (ie_cmp (os_eq rfl (hu190 hr)) (ie_callB (cs_len rfl) (by rfl) T.m_len (by decide +kernel) (ia_cons (ie_var 0) ia_nil)) (ie_callB (cs_len rfl) (by rfl) T.m_len (by decide +kernel) (ia_cons (ie_var 1) ia_nil))) (ie_one (ie_allC rfl rfl sc_nd (CompOk.mk (own := [("key", 3)]) ⟨_, gv_name _ 3, fun _ _ _ _ _ => pg_name (i := 3) sc_nd rfl (by first | exact .inl rfl | exact .inr rfl)⟩ (iw_seq rfl (ie_var 0)) (blkOk_by (show blkC ["a", "b", "k", "key"] (defScope st__law_same) _ _ = true by decide +kernel)) (fun _ _ _ _ _ => its_nil) (fun _ _ _ _ _ => (ie_and rfl (ie_cmp (os_in rfl (hu65 hr)) (ie_var 3) (ie_var 1)) (ie_one (ie_call (C.c5) hr takes0 (ia_cons (ie_ix rfl (ie_var 0) (ie_var 3)) (ia_cons (ie_ix rfl (ie_var 1) (ie_var 3)) ia_nil)))))) (by intro _; rfl)) T.m_all)))))
 iss_nil)
 (iss_cons (is_if (PW.pt (iw_or (it_truth rfl (ie_isA .bool rfl (ie_var 0) T.m_isinstance T.m_bool)) (iw_or1 (it_truth rfl (ie_isA .bool rfl (ie_var 1) T.m_isinstance T.m_bool)))))
 (iss_one (is_ret (ie_and rfl (ie_isA .bool rfl (ie_var 0) T.m_isinstance T.m_bool) (ie_and rfl (ie_isA .bool rfl (ie_var 1) T.m_isinstance T.m_bool) (ie_one (ie_cmp (os_eq rfl (hu190 hr)) (ie_var 0) (ie_var 1)))))))
 iss_nil)
 (iss_cons (is_if (PW.pt (iw_or (PW.pt (iw_and (it_truth rfl (ie_isA .int rfl (ie_var 0) T.m_isinstance T.m_int)) (iw_and1 (it_truth rfl (ie_isA .int rfl (ie_var 1) T.m_isinstance T.m_int))))) (iw_or1 (PW.pt (iw_and (it_truth rfl (ie_isA .str rfl (ie_var 0) T.m_isinstance T.m_str)) (iw_and1 (it_truth rfl (ie_isA .str rfl (ie_var 1) T.m_isinstance T.m_str))))))))
 (iss_one (is_ret (ie_cmp (os_eq rfl (hu190 hr)) (ie_var 0) (ie_var 1))))
 iss_nil)
 (iss_one (is_ret (ie_and rfl (ie_isN (ie_var 0)) (ie_one (ie_isN (ie_var 1))))))))))
theorem d__law_tape (hK : G.K = K) (hX : G.cm = cmT K) (T : Tx K mg) (C : Cs P w K mg base G n c) (f : Addr) (cdv : Value) (A : Around) (outer : List Env) (s : Shared) (H : Hp) (E : XK)
    (hr : Room n (A.deeper (PyProof.Rows.envOfC "_law_tape" (defScope st__law_tape) s.heap.objs.size f cdv))) :
    PSs (cxOf (L2.CX P w) P w K mg base ["script", "many", "cells", "cell", "big", "value", "tape", "k"] "_law_tape" (defScope st__law_tape) f cdv A outer s H E) (defBody st__law_tape) (tS G (fun cls d _ H => E cls d H) (b__law_tape c)) := by
  subst hK
  have sc_nd := sc__law_tape.nd
  have tk : Takes (cxOf (L2.CX P w) P w G.K mg base ["script", "many", "cells", "cell", "big", "value", "tape", "k"] "_law_tape" (defScope st__law_tape) f cdv A outer s H E) (fun cls d _ H => E cls d H) := takes_of rfl rfl rfl rfl
  have po := passes_of (X := cxOf (L2.CX P w) P w G.K mg base ["script", "many", "cells", "cell", "big", "value", "tape", "k"] "_law_tape" (defScope st__law_tape) f cdv A outer s H E) rfl
  exact
 (iss_cons (is_set 2 sc_nd (ie_lst (ia_cons ie_int ia_nil)))
 (iss_cons (is_for po rfl (iw_seq rfl (ie_sl rfl (ie_var 0) io_none (io_some ie_int))) (ig_name 3 sc_nd)
 (iss_one (is_expr (ie_bm rfl ms_append PySem.F.slot_list_append PySem.F.type_list_append (ie_var 2) (ia_cons (ie_callB (cs_abs) (by rfl) T.m_abs (by decide +kernel) (ia_cons (ie_var 3) ia_nil)) ia_nil)))))
 (iss_cons (is_set 4 sc_nd (ie_callB (cs_max1 rfl rfl) (by rfl) T.m_max (by decide +kernel) (ia_cons (ie_var 2) ia_nil)))
 (iss_cons (is_if (it_cmp os_lt (ie_var 4) (ie_op os_pow ie_int ie_int))
 (iss_one (is_set 4 sc_nd ie_int))
 iss_nil)
 (iss_cons (is_set 5 sc_nd (ie_op (os_add rfl) ie_int (ie_callB (cs_len rfl) (by rfl) T.m_len (by decide +kernel) (ia_cons (ie_var 2) ia_nil))))
 (iss_cons (is_set 6 sc_nd (ie_lst ia_nil))
 (iss_cons (is_for po rfl (iw_rng1 (ie_var 1) T.m_range) (ig_name 7 sc_nd)
 (iss_one (is_if (it_cmp os_gt (ie_var 4) ie_int)
 (iss_cons (is_expr (ie_bm rfl ms_append PySem.F.slot_list_append PySem.F.type_list_append (ie_var 6) (ia_cons (ie_op os_mod (ie_callTy (cs_int) (by rfl) T.m_int (by decide +kernel) (ia_cons (ie_var 4) ia_nil)) ie_int) ia_nil)))
 (iss_one (is_set 4 sc_nd (ie_op os_div (ie_var 4) ie_int))))
 (iss_cons (is_set 5 sc_nd (ie_op os_mod (ie_callTy (cs_int) (by rfl) T.m_int (by decide +kernel) (ia_cons (ie_op (os_add rfl) (ie_op (os_add rfl) (ie_op (os_mul rfl) (ie_var 5) ie_int) (ie_op (os_mul rfl) (ie_ix rfl (ie_var 2) (ie_op os_mod (ie_callTy (cs_int) (by rfl) T.m_int (by decide +kernel) (ia_cons (ie_var 7) ia_nil)) (ie_callB (cs_len rfl) (by rfl) T.m_len (by decide +kernel) (ia_cons (ie_var 2) ia_nil)))) ie_int)) (ie_var 7)) ia_nil)) ie_int))
 (iss_one (is_expr (ie_bm rfl ms_append PySem.F.slot_list_append PySem.F.type_list_append (ie_var 6) (ia_cons (ie_op os_mod (ie_callTy (cs_int) (by rfl) T.m_int (by decide +kernel) (ia_cons (ie_op (os_add rfl) (ie_op (os_mul rfl) (ie_var 5) ie_int) (ie_op (os_mul rfl) (ie_var 7) ie_int)) ia_nil)) ie_int) ia_nil))))))))
 (iss_one (is_ret (ie_var 6))))))))))
theorem d__law_pick (hK : G.K = K) (hX : G.cm = cmT K) (T : Tx K mg) (C : Cs P w K mg base G n c) (f : Addr) (cdv : Value) (A : Around) (outer : List Env) (s : Shared) (H : Hp) (E : XK)
    (hr : Room n (A.deeper (PyProof.Rows.envOfC "_law_pick" (defScope st__law_pick) s.heap.objs.size f cdv))) :
    PSs (cxOf (L2.CX P w) P w K mg base ["tape", "at", "many"] "_law_pick" (defScope st__law_pick) f cdv A outer s H E) (defBody st__law_pick) (tS G (fun cls d _ H => E cls d H) (b__law_pick c)) := by
  subst hK
  have sc_nd := sc__law_pick.nd
  have tk : Takes (cxOf (L2.CX P w) P w G.K mg base ["tape", "at", "many"] "_law_pick" (defScope st__law_pick) f cdv A outer s H E) (fun cls d _ H => E cls d H) := takes_of rfl rfl rfl rfl
  have po := passes_of (X := cxOf (L2.CX P w) P w G.K mg base ["tape", "at", "many"] "_law_pick" (defScope st__law_pick) f cdv A outer s H E) rfl
  exact
 (iss_one (is_ret (ie_op os_mod (ie_callTy (cs_int) (by rfl) T.m_int (by decide +kernel) (ia_cons (ie_ix rfl (ie_var 0) (ie_op os_mod (ie_callTy (cs_int) (by rfl) T.m_int (by decide +kernel) (ia_cons (ie_var 1) ia_nil)) (ie_callB (cs_len rfl) (by rfl) T.m_len (by decide +kernel) (ia_cons (ie_var 0) ia_nil)))) ia_nil)) (ie_var 2))))
theorem d__law_leaf (hK : G.K = K) (hX : G.cm = cmT K) (T : Tx K mg) (C : Cs P w K mg base G n c) (f : Addr) (cdv : Value) (A : Around) (outer : List Env) (s : Shared) (H : Hp) (E : XK)
    (hr : Room n (A.deeper (PyProof.Rows.envOfC "_law_leaf" (defScope st__law_leaf) s.heap.objs.size f cdv))) :
    PSs (cxOf (L2.CX P w) P w K mg base ["tape", "at", "free", "pick"] "_law_leaf" (defScope st__law_leaf) f cdv A outer s H E) (defBody st__law_leaf) (tS G (fun cls d _ H => E cls d H) (b__law_leaf c)) := by
  subst hK
  have sc_nd := sc__law_leaf.nd
  have tk : Takes (cxOf (L2.CX P w) P w G.K mg base ["tape", "at", "free", "pick"] "_law_leaf" (defScope st__law_leaf) f cdv A outer s H E) (fun cls d _ H => E cls d H) := takes_of rfl rfl rfl rfl
  have po := passes_of (X := cxOf (L2.CX P w) P w G.K mg base ["tape", "at", "free", "pick"] "_law_leaf" (defScope st__law_leaf) f cdv A outer s H E) rfl
  exact
 (iss_cons (is_set 3 sc_nd (ie_call (C.c7) hr tk (ia_cons (ie_var 0) (ia_cons (ie_var 1) (ia_cons (ie_op (os_add rfl) ie_int (ie_callB (cs_len rfl) (by rfl) T.m_len (by decide +kernel) (ia_cons (ie_var 2) ia_nil))) ia_nil)))))
 (iss_cons (is_if (it_cmp os_ge (ie_var 3) ie_int)
 (iss_one (is_ret (ie_tup (ia_cons (ie_str (s := s_v)) (ia_cons (ie_ix rfl (ie_var 2) (ie_op os_sub (ie_var 3) ie_int)) ia_nil)))))
 iss_nil)
 (iss_one (is_ret (ie_tup (ia_cons (ie_str (s := s_c)) (ia_cons (ie_ix rfl (ie_tup (ia_cons ie_int (ia_cons ie_int (ia_cons ie_int (ia_cons ie_int ia_nil))))) (ie_var 3)) (ia_cons (ie_tup ia_nil) ia_nil))))))))
theorem d__law_shape (hK : G.K = K) (hX : G.cm = cmT K) (T : Tx K mg) (C : Cs P w K mg base G n c) (f : Addr) (cdv : Value) (A : Around) (outer : List Env) (s : Shared) (H : Hp) (E : XK)
    (hr : Room n (A.deeper (PyProof.Rows.envOfC "_law_shape" (defScope st__law_shape) s.heap.objs.size f cdv))) :
    PSs (cxOf (L2.CX P w) P w K mg base ["tape", "at", "level", "free", "pick", "left", "right", "inner", "parts", "many", "k", "part"] "_law_shape" (defScope st__law_shape) f cdv A outer s H E) (defBody st__law_shape) (tS G (fun cls d _ H => E cls d H) (b__law_shape c)) := by
  subst hK
  have sc_nd := sc__law_shape.nd
  have tk : Takes (cxOf (L2.CX P w) P w G.K mg base ["tape", "at", "level", "free", "pick", "left", "right", "inner", "parts", "many", "k", "part"] "_law_shape" (defScope st__law_shape) f cdv A outer s H E) (fun cls d _ H => E cls d H) := takes_of rfl rfl rfl rfl
  have po := passes_of (X := cxOf (L2.CX P w) P w G.K mg base ["tape", "at", "level", "free", "pick", "left", "right", "inner", "parts", "many", "k", "part"] "_law_shape" (defScope st__law_shape) f cdv A outer s H E) rfl
  exact
 (iss_cons (is_set 4 sc_nd (ie_call (C.c7) hr tk (ia_cons (ie_var 0) (ia_cons (ie_var 1) (ia_cons ie_int ia_nil)))))
 (iss_cons (is_if (PW.pt (iw_or (it_cmp os_le (ie_var 2) ie_int) (iw_or1 (it_cmp os_lt (ie_var 4) ie_int))))
 (iss_one (is_ret (ie_tup (ia_cons (ie_call (C.c8) hr tk (ia_cons (ie_var 0) (ia_cons (ie_op (os_add rfl) (ie_var 1) ie_int) (ia_cons (ie_var 3) ia_nil)))) (ia_cons (ie_op (os_add rfl) (ie_var 1) ie_int) ia_nil)))))
 iss_nil)
 (iss_cons (is_if (it_cmp os_lt (ie_var 4) ie_int)
 (iss_cons (is_asg (ie_call (C.c9) hr tk (ia_cons (ie_var 0) (ia_cons (ie_op (os_add rfl) (ie_var 1) ie_int) (ia_cons (ie_op os_sub (ie_var 2) ie_int) (ia_cons (ie_var 3) ia_nil))))) (ig_tup 2 rfl rfl (igs_cons 5 (ig_name 5 sc_nd) (igs_cons 1 (ig_name 1 sc_nd) igs_nil calm_nil) (calm_cons calm_nil))))
 (iss_cons (is_asg (ie_call (C.c9) hr tk (ia_cons (ie_var 0) (ia_cons (ie_var 1) (ia_cons (ie_op os_sub (ie_var 2) ie_int) (ia_cons (ie_var 3) ia_nil))))) (ig_tup 2 rfl rfl (igs_cons 6 (ig_name 6 sc_nd) (igs_cons 1 (ig_name 1 sc_nd) igs_nil calm_nil) (calm_cons calm_nil))))
 (iss_one (is_ret (ie_tup (ia_cons (ie_tup (ia_cons (ie_str (s := s_f)) (ia_cons (ie_var 5) (ia_cons (ie_var 6) ia_nil)))) (ia_cons (ie_var 1) ia_nil)))))))
 iss_nil)
 (iss_cons (is_if (it_cmp (os_eq rfl (hu190 hr)) (ie_var 4) ie_int)
 (iss_cons (is_asg (ie_call (C.c9) hr tk (ia_cons (ie_var 0) (ia_cons (ie_op (os_add rfl) (ie_var 1) ie_int) (ia_cons (ie_op os_sub (ie_var 2) ie_int) (ia_cons (ie_var 3) ia_nil))))) (ig_tup 2 rfl rfl (igs_cons 7 (ig_name 7 sc_nd) (igs_cons 1 (ig_name 1 sc_nd) igs_nil calm_nil) (calm_cons calm_nil))))
 (iss_one (is_ret (ie_tup (ia_cons (ie_tup (ia_cons (ie_str (s := s_c)) (ia_cons (ie_ix rfl (ie_tup (ia_cons ie_int (ia_cons ie_int (ia_cons ie_int ia_nil)))) (ie_call (C.c7) hr tk (ia_cons (ie_var 0) (ia_cons (ie_var 1) (ia_cons ie_int ia_nil))))) (ia_cons (ie_tup (ia_cons (ie_var 7) ia_nil)) ia_nil)))) (ia_cons (ie_op (os_add rfl) (ie_var 1) ie_int) ia_nil))))))
 iss_nil)
 (iss_cons (is_set 8 sc_nd (ie_lst ia_nil))
 (iss_cons (is_set 9 sc_nd (ie_op (os_add rfl) ie_int (ie_op os_div (ie_call (C.c7) hr tk (ia_cons (ie_var 0) (ia_cons (ie_op (os_add rfl) (ie_var 1) ie_int) (ia_cons ie_int ia_nil)))) ie_int)))
 (iss_cons (is_set 1 sc_nd (ie_op (os_add rfl) (ie_var 1) ie_int))
 (iss_cons (is_for po rfl (iw_rng1 (ie_var 9) T.m_range) (ig_name 10 sc_nd)
 (iss_cons (is_asg (ie_call (C.c9) hr tk (ia_cons (ie_var 0) (ia_cons (ie_var 1) (ia_cons (ie_op os_sub (ie_var 2) ie_int) (ia_cons (ie_var 3) ia_nil))))) (ig_tup 2 rfl rfl (igs_cons 11 (ig_name 11 sc_nd) (igs_cons 1 (ig_name 1 sc_nd) igs_nil calm_nil) (calm_cons calm_nil))))
 (iss_one (is_expr (ie_bm rfl ms_append PySem.F.slot_list_append PySem.F.type_list_append (ie_var 8) (ia_cons (ie_var 11) ia_nil))))))
 (iss_one (is_ret (ie_tup (ia_cons (ie_tup (ia_cons (ie_str (s := s_t)) (ia_cons (ie_callTy (cs_tuple rfl) (by rfl) T.m_tuple (by decide +kernel) (ia_cons (ie_var 8) ia_nil)) ia_nil))) (ia_cons (ie_var 1) ia_nil)))))))))))))
theorem d__law_parts (hK : G.K = K) (hX : G.cm = cmT K) (T : Tx K mg) (C : Cs P w K mg base G n c) (f : Addr) (cdv : Value) (A : Around) (outer : List Env) (s : Shared) (H : Hp) (E : XK)
    (hr : Room n (A.deeper (PyProof.Rows.envOfC "_law_parts" (defScope st__law_parts) s.heap.objs.size f cdv))) :
    PSs (cxOf (L2.CX P w) P w K mg base ["shape"] "_law_parts" (defScope st__law_parts) f cdv A outer s H E) (defBody st__law_parts) (tS G (fun cls d _ H => E cls d H) (b__law_parts c)) := by
  subst hK
  have sc_nd := sc__law_parts.nd
  have tk : Takes (cxOf (L2.CX P w) P w G.K mg base ["shape"] "_law_parts" (defScope st__law_parts) f cdv A outer s H E) (fun cls d _ H => E cls d H) := takes_of rfl rfl rfl rfl
  have po := passes_of (X := cxOf (L2.CX P w) P w G.K mg base ["shape"] "_law_parts" (defScope st__law_parts) f cdv A outer s H E) rfl
  exact
 (iss_cons (is_if (it_cmp (os_eq rfl (hu190 hr)) (ie_ix rfl (ie_var 0) ie_int) (ie_str (s := s_v)))
 (iss_one (is_ret (ie_tup ia_nil)))
 iss_nil)
 (iss_cons (is_if (it_cmp (os_eq rfl (hu190 hr)) (ie_ix rfl (ie_var 0) ie_int) (ie_str (s := s_c)))
 (iss_one (is_ret (ie_ix rfl (ie_var 0) ie_int)))
 iss_nil)
 (iss_cons (is_if (it_cmp (os_eq rfl (hu190 hr)) (ie_ix rfl (ie_var 0) ie_int) (ie_str (s := s_t)))
 (iss_one (is_ret (ie_ix rfl (ie_var 0) ie_int)))
 iss_nil)
 (iss_one (is_ret (ie_tup (ia_cons (ie_ix rfl (ie_var 0) ie_int) (ia_cons (ie_ix rfl (ie_var 0) ie_int) ia_nil))))))))
theorem d__law_rebuilt (hK : G.K = K) (hX : G.cm = cmT K) (T : Tx K mg) (C : Cs P w K mg base G n c) (f : Addr) (cdv : Value) (A : Around) (outer : List Env) (s : Shared) (H : Hp) (E : XK)
    (hr : Room n (A.deeper (PyProof.Rows.envOfC "_law_rebuilt" (defScope st__law_rebuilt) s.heap.objs.size f cdv))) :
    PSs (cxOf (L2.CX P w) P w K mg base ["shape", "parts"] "_law_rebuilt" (defScope st__law_rebuilt) f cdv A outer s H E) (defBody st__law_rebuilt) (tS G (fun cls d _ H => E cls d H) (b__law_rebuilt c)) := by
  subst hK
  have sc_nd := sc__law_rebuilt.nd
  have tk : Takes (cxOf (L2.CX P w) P w G.K mg base ["shape", "parts"] "_law_rebuilt" (defScope st__law_rebuilt) f cdv A outer s H E) (fun cls d _ H => E cls d H) := takes_of rfl rfl rfl rfl
  have po := passes_of (X := cxOf (L2.CX P w) P w G.K mg base ["shape", "parts"] "_law_rebuilt" (defScope st__law_rebuilt) f cdv A outer s H E) rfl
  exact
 (iss_cons (is_if (it_cmp (os_eq rfl (hu190 hr)) (ie_ix rfl (ie_var 0) ie_int) (ie_str (s := s_c)))
 (iss_one (is_ret (ie_tup (ia_cons (ie_str (s := s_c)) (ia_cons (ie_ix rfl (ie_var 0) ie_int) (ia_cons (ie_callTy (cs_tuple rfl) (by rfl) T.m_tuple (by decide +kernel) (ia_cons (ie_var 1) ia_nil)) ia_nil))))))
 iss_nil)
 (iss_cons (is_if (it_cmp (os_eq rfl (hu190 hr)) (ie_ix rfl (ie_var 0) ie_int) (ie_str (s := s_t)))
 (iss_one (is_ret (ie_tup (ia_cons (ie_str (s := s_t)) (ia_cons (ie_callTy (cs_tuple rfl) (by rfl) T.m_tuple (by decide +kernel) (ia_cons (ie_var 1) ia_nil)) ia_nil)))))
 iss_nil)
 (iss_one (is_ret (ie_tup (ia_cons (ie_str (s := s_f)) (ia_cons (ie_ix rfl (ie_var 1) ie_int) (ia_cons (ie_ix rfl (ie_var 1) ie_int) ia_nil))))))))
theorem d__law_apply (hK : G.K = K) (hX : G.cm = cmT K) (T : Tx K mg) (C : Cs P w K mg base G n c) (f : Addr) (cdv : Value) (A : Around) (outer : List Env) (s : Shared) (H : Hp) (E : XK)
    (hr : Room n (A.deeper (PyProof.Rows.envOfC "_law_apply" (defScope st__law_apply) s.heap.objs.size f cdv))) :
    PSs (cxOf (L2.CX P w) P w K mg base ["shape", "pairs", "number", "due", "part"] "_law_apply" (defScope st__law_apply) f cdv A outer s H E) (defBody st__law_apply) (tS G (fun cls d _ H => E cls d H) (b__law_apply c)) := by
  subst hK
  have sc_nd := sc__law_apply.nd
  have tk : Takes (cxOf (L2.CX P w) P w G.K mg base ["shape", "pairs", "number", "due", "part"] "_law_apply" (defScope st__law_apply) f cdv A outer s H E) (fun cls d _ H => E cls d H) := takes_of rfl rfl rfl rfl
  have po := passes_of (X := cxOf (L2.CX P w) P w G.K mg base ["shape", "pairs", "number", "due", "part"] "_law_apply" (defScope st__law_apply) f cdv A outer s H E) rfl
  exact
 (iss_cons (is_if (it_cmp (os_eq rfl (hu190 hr)) (ie_ix rfl (ie_var 0) ie_int) (ie_str (s := s_v)))
 (iss_cons (is_for po rfl (iw_seq rfl (ie_var 1)) (ig_tup 2 rfl rfl (igs_cons 2 (ig_name 2 sc_nd) (igs_cons 3 (ig_name 3 sc_nd) igs_nil calm_nil) (calm_cons calm_nil)))
 (iss_one (is_if (it_cmp (os_eq rfl (hu190 hr)) (ie_var 2) (ie_ix rfl (ie_var 0) ie_int))
 (iss_one (is_ret (ie_var 3)))
 iss_nil)))
 (iss_one (is_ret (ie_var 0))))
 iss_nil)
 (iss_one (is_ret (ie_call (C.c11) hr tk (ia_cons (ie_var 0) (ia_cons (ie_comp rfl sc_nd (CompOk.mk (own := [("part", 4)]) ⟨_, gv_name _ 4, fun _ _ _ _ _ => pg_name (i := 4) sc_nd rfl (by first | exact .inl rfl | exact .inr rfl)⟩ (iw_seq rfl (ie_call (C.c10) hr tk (ia_cons (ie_var 0) ia_nil))) (blkOk_by (show blkC ["shape", "pairs", "number", "due", "part"] (defScope st__law_apply) _ _ = true by decide +kernel)) (fun _ _ _ _ _ => its_nil) (fun _ _ _ _ _ => (ie_call (C.c12) hr takes0 (ia_cons (ie_var 4) (ia_cons (ie_var 1) ia_nil)))) (by intro _; rfl))) ia_nil))))))
theorem d__law_chain (hK : G.K = K) (hX : G.cm = cmT K) (T : Tx K mg) (C : Cs P w K mg base G n c) (f : Addr) (cdv : Value) (A : Around) (outer : List Env) (s : Shared) (H : Hp) (E : XK)
    (hr : Room n (A.deeper (PyProof.Rows.envOfC "_law_chain" (defScope st__law_chain) s.heap.objs.size f cdv))) :
    PSs (cxOf (L2.CX P w) P w K mg base ["level", "end", "shape", "k"] "_law_chain" (defScope st__law_chain) f cdv A outer s H E) (defBody st__law_chain) (tS G (fun cls d _ H => E cls d H) (b__law_chain c)) := by
  subst hK
  have sc_nd := sc__law_chain.nd
  have tk : Takes (cxOf (L2.CX P w) P w G.K mg base ["level", "end", "shape", "k"] "_law_chain" (defScope st__law_chain) f cdv A outer s H E) (fun cls d _ H => E cls d H) := takes_of rfl rfl rfl rfl
  have po := passes_of (X := cxOf (L2.CX P w) P w G.K mg base ["level", "end", "shape", "k"] "_law_chain" (defScope st__law_chain) f cdv A outer s H E) rfl
  exact
 (iss_cons (is_set 2 sc_nd (ie_var 1))
 (iss_cons (is_for po rfl (iw_rng1 (ie_op os_sub (ie_var 0) ie_int) T.m_range) (ig_name 3 sc_nd)
 (iss_one (is_set 2 sc_nd (ie_tup (ia_cons (ie_str (s := s_f)) (ia_cons (ie_tup (ia_cons (ie_str (s := s_c)) (ia_cons ie_int (ia_cons (ie_tup ia_nil) ia_nil)))) (ia_cons (ie_var 2) ia_nil)))))))
 (iss_one (is_ret (ie_var 2)))))
theorem d__law_flat (hK : G.K = K) (hX : G.cm = cmT K) (T : Tx K mg) (C : Cs P w K mg base G n c) (f : Addr) (cdv : Value) (A : Around) (outer : List Env) (s : Shared) (H : Hp) (E : XK)
    (hr : Room n (A.deeper (PyProof.Rows.envOfC "_law_flat" (defScope st__law_flat) s.heap.objs.size f cdv))) :
    PSs (cxOf (L2.CX P w) P w K mg base ["pieces", "rest", "shape", "k"] "_law_flat" (defScope st__law_flat) f cdv A outer s H E) (defBody st__law_flat) (tS G (fun cls d _ H => E cls d H) (b__law_flat c)) := by
  subst hK
  have sc_nd := sc__law_flat.nd
  have tk : Takes (cxOf (L2.CX P w) P w G.K mg base ["pieces", "rest", "shape", "k"] "_law_flat" (defScope st__law_flat) f cdv A outer s H E) (fun cls d _ H => E cls d H) := takes_of rfl rfl rfl rfl
  have po := passes_of (X := cxOf (L2.CX P w) P w G.K mg base ["pieces", "rest", "shape", "k"] "_law_flat" (defScope st__law_flat) f cdv A outer s H E) rfl
  exact
 (iss_cons (is_set 2 sc_nd (ie_tup (ia_cons (ie_str (s := s_c)) (ia_cons ie_int (ia_cons (ie_tup ia_nil) ia_nil)))))
 (iss_cons (is_for po rfl (iw_rng1 (ie_var 0) T.m_range) (ig_name 3 sc_nd)
 (iss_one (is_set 2 sc_nd (ie_tup (ia_cons (ie_str (s := s_t)) (ia_cons (ie_tup (ia_cons (ie_var 2) (ia_cons (ie_tup (ia_cons (ie_str (s := s_v)) (ia_cons ie_int ia_nil))) ia_nil))) ia_nil))))))
 (iss_one (is_ret (ie_tup (ia_cons (ie_str (s := s_t)) (ia_cons (ie_tup (ia_cons (ie_var 2) (ia_cons (ie_var 1) ia_nil))) ia_nil)))))))
theorem d__law_answer (hK : G.K = K) (hX : G.cm = cmT K) (T : Tx K mg) (C : Cs P w K mg base G n c) (f : Addr) (cdv : Value) (A : Around) (outer : List Env) (s : Shared) (H : Hp) (E : XK)
    (hr : Room n (A.deeper (PyProof.Rows.envOfC "_law_answer" (defScope st__law_answer) s.heap.objs.size f cdv))) :
    PSs (cxOf (L2.CX P w) P w K mg base ["shape", "mapping"] "_law_answer" (defScope st__law_answer) f cdv A outer s H E) (defBody st__law_answer) (tS G (fun cls d _ H => E cls d H) (b__law_answer c)) := by
  subst hK
  have sc_nd := sc__law_answer.nd
  have tk : Takes (cxOf (L2.CX P w) P w G.K mg base ["shape", "mapping"] "_law_answer" (defScope st__law_answer) f cdv A outer s H E) (fun cls d _ H => E cls d H) := takes_of rfl rfl rfl rfl
  have po := passes_of (X := cxOf (L2.CX P w) P w G.K mg base ["shape", "mapping"] "_law_answer" (defScope st__law_answer) f cdv A outer s H E) rfl
  exact
 (iss_one (is_try 1 0 rfl rfl tk T.g_TooLarge (T.e_TooLarge hX) (fun W pn xe tk po =>
 (iss_one (is_ret (ie_call (C.c4) hr tk (ia_cons (ie_var 0) (ia_cons (ie_var 1) ia_nil)))))) (fun a pn =>
 (iss_one (is_ret ie_non)))))
theorem d__law_edge (hK : G.K = K) (hX : G.cm = cmT K) (T : Tx K mg) (C : Cs P w K mg base G n c) (f : Addr) (cdv : Value) (A : Around) (outer : List Env) (s : Shared) (H : Hp) (E : XK)
    (hr : Room n (A.deeper (PyProof.Rows.envOfC "_law_edge" (defScope st__law_edge) s.heap.objs.size f cdv))) :
    PSs (cxOf (L2.CX P w) P w K mg base ["tape", "first", "second", "due", "actual", "pieces", "inner", "k", "many", "total"] "_law_edge" (defScope st__law_edge) f cdv A outer s H E) (defBody st__law_edge) (tS G (fun cls d _ H => E cls d H) (b__law_edge c)) := by
  subst hK
  have sc_nd := sc__law_edge.nd
  have tk : Takes (cxOf (L2.CX P w) P w G.K mg base ["tape", "first", "second", "due", "actual", "pieces", "inner", "k", "many", "total"] "_law_edge" (defScope st__law_edge) f cdv A outer s H E) (fun cls d _ H => E cls d H) := takes_of rfl rfl rfl rfl
  have po := passes_of (X := cxOf (L2.CX P w) P w G.K mg base ["tape", "first", "second", "due", "actual", "pieces", "inner", "k", "many", "total"] "_law_edge" (defScope st__law_edge) f cdv A outer s H E) rfl
  exact
 (iss_cons (is_if (it_cmp (os_eq rfl (hu190 hr)) (ie_call (C.c7) hr tk (ia_cons (ie_var 0) (ia_cons ie_int (ia_cons ie_int ia_nil)))) ie_int)
 (iss_cons (is_set 1 sc_nd (ie_op (os_add rfl) ie_int (ie_call (C.c7) hr tk (ia_cons (ie_var 0) (ia_cons ie_int (ia_cons ie_int ia_nil))))))
 (iss_cons (is_set 2 sc_nd (ie_op (os_add rfl) ie_int (ie_call (C.c7) hr tk (ia_cons (ie_var 0) (ia_cons ie_int (ia_cons ie_int ia_nil))))))
 (iss_cons (is_set 3 sc_nd (ie_call (C.c13) hr tk (ia_cons (ie_op os_sub (ie_op (os_add rfl) (ie_var 1) (ie_var 2)) ie_int) (ia_cons (ie_tup (ia_cons (ie_str (s := s_c)) (ia_cons ie_int (ia_cons (ie_tup ia_nil) ia_nil)))) ia_nil))))
 (iss_cons (is_set 4 sc_nd (ie_call (C.c15) hr tk (ia_cons (ie_call (C.c13) hr tk (ia_cons (ie_var 1) (ia_cons (ie_tup (ia_cons (ie_str (s := s_v)) (ia_cons ie_int ia_nil))) ia_nil))) (ia_cons (ie_disp [((dC (.int 1000000)), (dCallN c 13 2 (aCons (dVar 2) (aCons (dTup (aCons (dC (.str s_c)) (aCons (dC (.int 1)) (aCons (dTup aNil) aNil)))) aNil))))] (pps_cons ie_int (ie_call (C.c13) hr tk (ia_cons (ie_var 2) (ia_cons (ie_tup (ia_cons (ie_str (s := s_c)) (ia_cons ie_int (ia_cons (ie_tup ia_nil) ia_nil)))) ia_nil))) pps_nil)) ia_nil))))
 (iss_cons (is_if (it_cmp os_gt (ie_op os_sub (ie_op (os_add rfl) (ie_var 1) (ie_var 2)) ie_int) ie_int)
 (iss_one (is_ret (ie_isN (ie_var 4))))
 iss_nil)
 (iss_one (is_ret (ie_call (C.c5) hr tk (ia_cons (ie_var 4) (ia_cons (ie_var 3) ia_nil))))))))))
 iss_nil)
 (iss_cons (is_set 5 sc_nd (ie_op (os_add rfl) ie_int (ie_call (C.c7) hr tk (ia_cons (ie_var 0) (ia_cons ie_int (ia_cons ie_int ia_nil))))))
 (iss_cons (is_set 6 sc_nd (ie_tup (ia_cons (ie_str (s := s_c)) (ia_cons ie_int (ia_cons (ie_tup ia_nil) ia_nil)))))
 (iss_cons (is_for po rfl (iw_rng1 (ie_op (os_add rfl) ie_int (ie_call (C.c7) hr tk (ia_cons (ie_var 0) (ia_cons ie_int (ia_cons ie_int ia_nil))))) T.m_range) (ig_name 7 sc_nd)
 (iss_one (is_set 6 sc_nd (ie_tup (ia_cons (ie_str (s := s_f)) (ia_cons (ie_tup (ia_cons (ie_str (s := s_t)) (ia_cons (ie_tup (ia_cons (ie_tup (ia_cons (ie_str (s := s_c)) (ia_cons ie_int (ia_cons (ie_tup ia_nil) ia_nil)))) (ia_cons (ie_tup (ia_cons (ie_str (s := s_c)) (ia_cons ie_int (ia_cons (ie_tup ia_nil) ia_nil)))) ia_nil))) ia_nil))) (ia_cons (ie_var 6) ia_nil)))))))
 (iss_cons (is_set 8 sc_nd (ie_op (os_add rfl) ie_int (ie_op (os_mul rfl) ie_int (ie_op (os_add rfl) ie_int (ie_call (C.c7) hr tk (ia_cons (ie_var 0) (ia_cons ie_int (ia_cons ie_int ia_nil))))))))
 (iss_cons (is_set 9 sc_nd (ie_op (os_add rfl) (ie_op (os_add rfl) (ie_op (os_add rfl) ie_int ie_int) (ie_var 5)) (ie_op (os_mul rfl) (ie_var 5) (ie_var 8))))
 (iss_cons (is_if (it_cmp (os_eq rfl (hu190 hr)) (ie_call (C.c7) hr tk (ia_cons (ie_var 0) (ia_cons ie_int (ia_cons ie_int ia_nil)))) ie_int)
 (iss_cons (is_set 6 sc_nd (ie_tup (ia_cons (ie_str (s := s_f)) (ia_cons (ie_tup (ia_cons (ie_str (s := s_c)) (ia_cons ie_int (ia_cons (ie_tup ia_nil) ia_nil)))) (ia_cons (ie_var 6) ia_nil)))))
 (iss_one (is_set 9 sc_nd (ie_op (os_add rfl) (ie_var 9) (ie_op (os_mul rfl) ie_int (ie_var 5))))))
 iss_nil)
 (iss_cons (is_set 4 sc_nd (ie_call (C.c15) hr tk (ia_cons (ie_call (C.c14) hr tk (ia_cons (ie_var 5) (ia_cons (ie_tup (ia_cons (ie_str (s := s_c)) (ia_cons ie_int (ia_cons (ie_tup ia_nil) ia_nil)))) ia_nil))) (ia_cons (ie_disp [((dC (.int 1000000)), (dVar 6))] (pps_cons ie_int (ie_var 6) pps_nil)) ia_nil))))
 (iss_cons (is_if (it_cmp os_gt (ie_var 9) ie_int)
 (iss_one (is_ret (ie_isN (ie_var 4))))
 iss_nil)
 (iss_one (is_ret (ie_notN (ie_var 4)))))))))))))
theorem d_law (hK : G.K = K) (hX : G.cm = cmT K) (T : Tx K mg) (C : Cs P w K mg base G n c) (f : Addr) (cdv : Value) (A : Around) (outer : List Env) (s : Shared) (H : Hp) (E : XK)
    (hr : Room n (A.deeper (PyProof.Rows.envOfC "law" (defScope st_law) s.heap.objs.size f cdv))) :
    PSs (cxOf (L2.CX P w) P w K mg base ["script", "tape", "shape", "at", "pairs", "mapping", "k", "due", "actual", "number"] "law" (defScope st_law) f cdv A outer s H E) (defBody st_law) (tS G (fun cls d _ H => E cls d H) (b_law c)) := by
  subst hK
  have sc_nd := sc_law.nd
  have tk : Takes (cxOf (L2.CX P w) P w G.K mg base ["script", "tape", "shape", "at", "pairs", "mapping", "k", "due", "actual", "number"] "law" (defScope st_law) f cdv A outer s H E) (fun cls d _ H => E cls d H) := takes_of rfl rfl rfl rfl
  have po := passes_of (X := cxOf (L2.CX P w) P w G.K mg base ["script", "tape", "shape", "at", "pairs", "mapping", "k", "due", "actual", "number"] "law" (defScope st_law) f cdv A outer s H E) rfl
  exact
 (iss_cons (is_set 1 sc_nd (ie_call (C.c6) hr tk (ia_cons (ie_var 0) (ia_cons ie_int ia_nil))))
 (iss_cons (is_if (it_cmp os_lt (ie_call (C.c7) hr tk (ia_cons (ie_var 1) (ia_cons ie_int (ia_cons ie_int ia_nil)))) ie_int)
 (iss_one (is_ret (ie_call (C.c16) hr tk (ia_cons (ie_var 1) ia_nil))))
 iss_nil)
 (iss_cons (is_asg (ie_call (C.c9) hr tk (ia_cons (ie_var 1) (ia_cons ie_int (ia_cons ie_int (ia_cons (ie_lst (ia_cons ie_int (ia_cons ie_int (ia_cons ie_int (ia_cons ie_int ia_nil))))) ia_nil))))) (ig_tup 2 rfl rfl (igs_cons 2 (ig_name 2 sc_nd) (igs_cons 3 (ig_name 3 sc_nd) igs_nil calm_nil) (calm_cons calm_nil))))
 (iss_cons (is_set 4 sc_nd (ie_lst ia_nil))
 (iss_cons (is_set 5 sc_nd ie_dnewK)
 (iss_cons (is_for po rfl (iw_rng1 (ie_op (os_add rfl) ie_int (ie_call (C.c7) hr tk (ia_cons (ie_var 1) (ia_cons ie_int (ia_cons ie_int ia_nil))))) T.m_range) (ig_name 6 sc_nd)
 (iss_cons (is_asg (ie_call (C.c9) hr tk (ia_cons (ie_var 1) (ia_cons (ie_var 3) (ia_cons ie_int (ia_cons (ie_lst (ia_cons ie_int (ia_cons ie_int (ia_cons ie_int ia_nil)))) ia_nil))))) (ig_tup 2 rfl rfl (igs_cons 7 (ig_name 7 sc_nd) (igs_cons 3 (ig_name 3 sc_nd) igs_nil calm_nil) (calm_cons calm_nil))))
 (iss_cons (is_expr (ie_bm rfl ms_append PySem.F.slot_list_append PySem.F.type_list_append (ie_var 4) (ia_cons (ie_tup (ia_cons (ie_op (os_add rfl) ie_int (ie_var 6)) (ia_cons (ie_var 7) ia_nil))) ia_nil)))
 (iss_one (is_dset (hu_of hr) (ie_var 5) (ie_op (os_add rfl) ie_int (ie_var 6)) (ie_var 7))))))
 (iss_cons (is_set 8 sc_nd (ie_call (C.c4) hr tk (ia_cons (ie_var 2) (ia_cons (ie_var 5) ia_nil))))
 (iss_cons (is_if (it_not (it_truth rfl (ie_call (C.c5) hr tk (ia_cons (ie_call (C.c4) hr tk (ia_cons (ie_var 2) (ia_cons ie_dnewK ia_nil))) (ia_cons (ie_var 2) ia_nil)))))
 (iss_one (is_ret ie_bl))
 iss_nil)
 (iss_cons (is_if (PW.pt (iw_or (it_not (it_truth rfl (ie_call (C.c5) hr tk (ia_cons (ie_var 8) (ia_cons (ie_call (C.c12) hr tk (ia_cons (ie_var 2) (ia_cons (ie_var 4) ia_nil))) ia_nil))))) (iw_or1 (it_cmp (os_ne rfl (hu190 hr)) (ie_callB (cs_len rfl) (by rfl) T.m_len (by decide +kernel) (ia_cons (ie_var 5) ia_nil)) (ie_callB (cs_len rfl) (by rfl) T.m_len (by decide +kernel) (ia_cons (ie_var 4) ia_nil))))))
 (iss_one (is_ret ie_bl))
 iss_nil)
 (iss_cons (is_for po rfl (iw_seq rfl (ie_var 4)) (ig_tup 2 rfl rfl (igs_cons 9 (ig_name 9 sc_nd) (igs_cons 7 (ig_name 7 sc_nd) igs_nil calm_nil) (calm_cons calm_nil)))
 (iss_one (is_if (it_cmp (os_ne rfl (hu190 hr)) (ie_dget (hu_of hr) (ie_var 5) (ie_var 9)) (ie_var 7))
 (iss_one (is_ret ie_bl))
 iss_nil)))
 (iss_one (is_ret ie_bl))))))))))))
end
end K11
/-! ## End_K11 -/
set_option Elab.async false
set_option linter.all false
set_option maxRecDepth 100000
set_option maxHeartbeats 0
set_option autoImplicit false
/-! the end of shapewright_k11_substitution; printed by gen.py -/
namespace K11
open PySem L2 PI
section
variable {K : PySem.W.Frag} {mg : Str → Option Value}
/-- the defs, the built-ins, the constants behind the top -/
structure Fs (K : PySem.W.Frag) (mg : Str → Option Value) : Prop where
  tx : Tx K mg
  f0 : FunOk K mg "direct_parts" st_direct_parts ["shape"]
  f1 : FunOk K mg "with_parts" st_with_parts ["shape", "new_parts"]
  f2 : FunOk K mg "within_bounds" st_within_bounds ["shape"]
  f3 : FunOk K mg "replace_variables" st_replace_variables ["shape", "mapping"]
  f4 : FunOk K mg "substitute" st_substitute ["shape", "mapping"]
  f5 : FunOk K mg "_law_same" st__law_same ["a", "b"]
  f6 : FunOk K mg "_law_tape" st__law_tape ["script", "many"]
  f7 : FunOk K mg "_law_pick" st__law_pick ["tape", "at", "many"]
  f8 : FunOk K mg "_law_leaf" st__law_leaf ["tape", "at", "free"]
  f9 : FunOk K mg "_law_shape" st__law_shape ["tape", "at", "level", "free"]
  f10 : FunOk K mg "_law_parts" st__law_parts ["shape"]
  f11 : FunOk K mg "_law_rebuilt" st__law_rebuilt ["shape", "parts"]
  f12 : FunOk K mg "_law_apply" st__law_apply ["shape", "pairs"]
  f13 : FunOk K mg "_law_chain" st__law_chain ["level", "end"]
  f14 : FunOk K mg "_law_flat" st__law_flat ["pieces", "rest"]
  f15 : FunOk K mg "_law_answer" st__law_answer ["shape", "mapping"]
  f16 : FunOk K mg "_law_edge" st__law_edge ["tape"]
  f17 : FunOk K mg "law" st_law ["script"]
variable {P : Program} {w : World} {base : Heap} {G : Gx}
theorem all_ok (hK : G.K = K) (hX : G.cm = cmT K) (F : Fs K mg) : ∀ n, Cs P w K mg base G n (sem T n)
  | 0 => ⟨cal_zero F.f0 (fun _ _ => rfl) rfl,
    cal_zero F.f1 (fun _ _ => rfl) rfl,
    cal_zero F.f2 (fun _ _ => rfl) rfl,
    cal_zero F.f3 (fun _ _ => rfl) rfl,
    cal_zero F.f4 (fun _ _ => rfl) rfl,
    cal_zero F.f5 (fun _ _ => rfl) rfl,
    cal_zero F.f6 (fun _ _ => rfl) rfl,
    cal_zero F.f7 (fun _ _ => rfl) rfl,
    cal_zero F.f8 (fun _ _ => rfl) rfl,
    cal_zero F.f9 (fun _ _ => rfl) rfl,
    cal_zero F.f10 (fun _ _ => rfl) rfl,
    cal_zero F.f11 (fun _ _ => rfl) rfl,
    cal_zero F.f12 (fun _ _ => rfl) rfl,
    cal_zero F.f13 (fun _ _ => rfl) rfl,
    cal_zero F.f14 (fun _ _ => rfl) rfl,
    cal_zero F.f15 (fun _ _ => rfl) rfl,
    cal_zero F.f16 (fun _ _ => rfl) rfl,
    cal_zero F.f17 (fun _ _ => rfl) rfl⟩
  | n + 1 =>
    have C := all_ok hK hX F n
    ⟨cal_succ F.f0 sc_direct_parts fun f cdv A outer s H E hr => d_direct_parts hK hX F.tx C f cdv A outer s H E hr,
    cal_succ F.f1 sc_with_parts fun f cdv A outer s H E hr => d_with_parts hK hX F.tx C f cdv A outer s H E hr,
    cal_succ F.f2 sc_within_bounds fun f cdv A outer s H E hr => d_within_bounds hK hX F.tx C f cdv A outer s H E hr,
    cal_succ F.f3 sc_replace_variables fun f cdv A outer s H E hr => d_replace_variables hK hX F.tx C f cdv A outer s H E hr,
    cal_succ F.f4 sc_substitute fun f cdv A outer s H E hr => d_substitute hK hX F.tx C f cdv A outer s H E hr,
    cal_succ F.f5 sc__law_same fun f cdv A outer s H E hr => d__law_same hK hX F.tx C f cdv A outer s H E hr,
    cal_succ F.f6 sc__law_tape fun f cdv A outer s H E hr => d__law_tape hK hX F.tx C f cdv A outer s H E hr,
    cal_succ F.f7 sc__law_pick fun f cdv A outer s H E hr => d__law_pick hK hX F.tx C f cdv A outer s H E hr,
    cal_succ F.f8 sc__law_leaf fun f cdv A outer s H E hr => d__law_leaf hK hX F.tx C f cdv A outer s H E hr,
    cal_succ F.f9 sc__law_shape fun f cdv A outer s H E hr => d__law_shape hK hX F.tx C f cdv A outer s H E hr,
    cal_succ F.f10 sc__law_parts fun f cdv A outer s H E hr => d__law_parts hK hX F.tx C f cdv A outer s H E hr,
    cal_succ F.f11 sc__law_rebuilt fun f cdv A outer s H E hr => d__law_rebuilt hK hX F.tx C f cdv A outer s H E hr,
    cal_succ F.f12 sc__law_apply fun f cdv A outer s H E hr => d__law_apply hK hX F.tx C f cdv A outer s H E hr,
    cal_succ F.f13 sc__law_chain fun f cdv A outer s H E hr => d__law_chain hK hX F.tx C f cdv A outer s H E hr,
    cal_succ F.f14 sc__law_flat fun f cdv A outer s H E hr => d__law_flat hK hX F.tx C f cdv A outer s H E hr,
    cal_succ F.f15 sc__law_answer fun f cdv A outer s H E hr => d__law_answer hK hX F.tx C f cdv A outer s H E hr,
    cal_succ F.f16 sc__law_edge fun f cdv A outer s H E hr => d__law_edge hK hX F.tx C f cdv A outer s H E hr,
    cal_succ F.f17 sc_law fun f cdv A outer s H E hr => d_law hK hX F.tx C f cdv A outer s H E hr⟩
end
def fn : List He.DefD := [mkD "direct_parts" st_direct_parts, mkD "with_parts" st_with_parts, mkD "within_bounds" st_within_bounds, mkD "replace_variables" st_replace_variables, mkD "substitute" st_substitute, mkD "_law_same" st__law_same, mkD "_law_tape" st__law_tape, mkD "_law_pick" st__law_pick, mkD "_law_leaf" st__law_leaf, mkD "_law_shape" st__law_shape, mkD "_law_parts" st__law_parts, mkD "_law_rebuilt" st__law_rebuilt, mkD "_law_apply" st__law_apply, mkD "_law_chain" st__law_chain, mkD "_law_flat" st__law_flat, mkD "_law_answer" st__law_answer, mkD "_law_edge" st__law_edge, mkD "law" st_law]
def fa : List He.Fa := [.glo "direct_parts", .glo "with_parts", .glo "within_bounds", .glo "replace_variables", .glo "substitute", .glo "_law_same", .glo "_law_tape", .glo "_law_pick", .glo "_law_leaf", .glo "_law_shape", .glo "_law_parts", .glo "_law_rebuilt", .glo "_law_apply", .glo "_law_chain", .glo "_law_flat", .glo "_law_answer", .glo "_law_edge", .glo "law", .free "abs", .free "all", .free "bool", .free "dict", .free "int", .free "isinstance", .free "len", .free "list", .free "max", .free "range", .free "str", .free "tuple", .glo "TooLarge", .exc "TooLarge", .exm "TooLarge" "TooLarge" true]
abbrev R : PySem.W.OpenRow := PySem.W.OpenLaw.row PySem.Challenge.rw_shapewright_k11_substitution
def ex (K : PySem.W.Frag) : Bool := konN K "MAX_SIZE" g_MAX_SIZE && (konN K "MAX_DEPTH" g_MAX_DEPTH && (true))
abbrev hk : PySem.W.Hook := hookE 8 fa fn ex
def ob (s : PySem.W.SharedT) : He.AlD × Bool := obsE 8 fa fn ex (HandSHeadRun.getT s)
theorem ob_eq (s : PySem.W.SharedT) : ob s = hk.obs s.abs := obsE_eq (HandSHeadRun.getT_eq s)
def loose0 : List PySem.Str := ["direct_parts", "with_parts", "within_bounds", "replace_variables", "substitute", "_law_same", "_law_tape", "_law_pick", "_law_leaf", "_law_shape", "_law_parts", "_law_rebuilt", "_law_apply", "_law_chain", "_law_flat", "_law_answer", "_law_edge", "MAX_SIZE", "MAX_DEPTH", "ShapewrightError", "TooLarge"]
abbrev loose : List PySem.Str := loose0
theorem run (w : World) : HandSHeadRun.RunEq R (PySem.W.view R.prog [24]) hk ob 6000 loose w := by
  intro os
  kernel_rfl
theorem facts {P : Program} {w : World} {K : PySem.W.Frag} {h : Heap} {mg : Str → Option Value} {f : Addr} (X : K.In h) (G : h.Ns mainGlobals mg) (hfa : mg ("law" : Str) = some (.ref f)) (c : He.SaysD fa fn K) (cx : ex K = true) :
    ∃ fd : FuncData, (∀ (s : Shared) (v : Value), BindsTo s fd ⟨[v], []⟩ [("script", v)]) ∧ ∀ base : Heap, K.In base → base.Ns mainGlobals mg → FnOk P w K mg base (L2.CX P w) 230 f fd ["script"] (spI ⟨K, fun _ => .non, cmT K⟩ 1 (sem T 230 17)) := by
  have Z : Tx K mg := ⟨He.free_ok X G (c.fact 18 (f := .free "abs") rfl),
    He.free_ok X G (c.fact 19 (f := .free "all") rfl),
    He.free_ok X G (c.fact 20 (f := .free "bool") rfl),
    He.free_ok X G (c.fact 21 (f := .free "dict") rfl),
    He.free_ok X G (c.fact 22 (f := .free "int") rfl),
    He.free_ok X G (c.fact 23 (f := .free "isinstance") rfl),
    He.free_ok X G (c.fact 24 (f := .free "len") rfl),
    He.free_ok X G (c.fact 25 (f := .free "list") rfl),
    He.free_ok X G (c.fact 26 (f := .free "max") rfl),
    He.free_ok X G (c.fact 27 (f := .free "range") rfl),
    He.free_ok X G (c.fact 28 (f := .free "str") rfl),
    He.free_ok X G (c.fact 29 (f := .free "tuple") rfl),
    konN_ok X G (Bool.and_eq_true_iff.mp (cx)).1,
    konN_ok X G (Bool.and_eq_true_iff.mp ((Bool.and_eq_true_iff.mp cx).2)).1,
    He.glo_ok X G (c.fact 30 (f := .glo "TooLarge") rfl),
    He.exc_ok (c.fact 31 (f := .exc "TooLarge") rfl),
    He.exm_ok (c.fact 32 (f := .exm "TooLarge" "TooLarge" true) rfl)⟩
  have F : Fs K mg := ⟨Z, funOk_of X G c 0 0 (fun _ _ _ _ _ _ us hl => match us, hl with | [_], _ => rfl),
    funOk_of X G c 1 1 (fun _ _ _ _ _ _ us hl => match us, hl with | [_, _], _ => rfl),
    funOk_of X G c 2 2 (fun _ _ _ _ _ _ us hl => match us, hl with | [_], _ => rfl),
    funOk_of X G c 3 3 (fun _ _ _ _ _ _ us hl => match us, hl with | [_, _], _ => rfl),
    funOk_of X G c 4 4 (fun _ _ _ _ _ _ us hl => match us, hl with | [_, _], _ => rfl),
    funOk_of X G c 5 5 (fun _ _ _ _ _ _ us hl => match us, hl with | [_, _], _ => rfl),
    funOk_of X G c 6 6 (fun _ _ _ _ _ _ us hl => match us, hl with | [_, _], _ => rfl),
    funOk_of X G c 7 7 (fun _ _ _ _ _ _ us hl => match us, hl with | [_, _, _], _ => rfl),
    funOk_of X G c 8 8 (fun _ _ _ _ _ _ us hl => match us, hl with | [_, _, _], _ => rfl),
    funOk_of X G c 9 9 (fun _ _ _ _ _ _ us hl => match us, hl with | [_, _, _, _], _ => rfl),
    funOk_of X G c 10 10 (fun _ _ _ _ _ _ us hl => match us, hl with | [_], _ => rfl),
    funOk_of X G c 11 11 (fun _ _ _ _ _ _ us hl => match us, hl with | [_, _], _ => rfl),
    funOk_of X G c 12 12 (fun _ _ _ _ _ _ us hl => match us, hl with | [_, _], _ => rfl),
    funOk_of X G c 13 13 (fun _ _ _ _ _ _ us hl => match us, hl with | [_, _], _ => rfl),
    funOk_of X G c 14 14 (fun _ _ _ _ _ _ us hl => match us, hl with | [_, _], _ => rfl),
    funOk_of X G c 15 15 (fun _ _ _ _ _ _ us hl => match us, hl with | [_, _], _ => rfl),
    funOk_of X G c 16 16 (fun _ _ _ _ _ _ us hl => match us, hl with | [_], _ => rfl),
    funOk_of X G c 17 17 (fun _ _ _ _ _ _ us hl => match us, hl with | [_], _ => rfl)⟩
  obtain ⟨fd, FD, b⟩ := law_fd (x := "law") (st := st_law) (ps := ["script"]) c 17 (fun _ _ _ _ _ _ us hl => match us, hl with | [_], _ => rfl)
  have e := hfa.symm.trans (He.glo_ok X G (c.fact 17 (f := .glo "law") rfl))
  cases e
  refine ⟨fd, fun s v => b s [v] rfl, fun base _ _ => ?_⟩
  have C := all_ok (P := P) (w := w) (base := base) (G := ⟨K, fun _ => .non, cmT K⟩) rfl rfl F 229
  exact fn_I FD sc_law fun cdv A outer s H E hr => d_law rfl rfl Z C _ cdv A outer s H E hr
end K11
open PySem PySem.W PySem.Calls PyProof.Rows PI
theorem PySem.Challenge.cw_shapewright_k11_substitution_holds : PySem.Challenge.rw_shapewright_k11_substitution.Holds := by
  w_on; o_law
  refine HandSHeadRun.head_any (r := OpenLaw.row PySem.Challenge.rw_shapewright_k11_substitution) (q := view (OpenLaw.row PySem.Challenge.rw_shapewright_k11_substitution).prog [24]) (H := K11.hk) (ob := K11.ob) (M := 6000) (loose := K11.loose) (d := HandSHeadRun.topDef (OpenLaw.row PySem.Challenge.rw_shapewright_k11_substitution).prog 24) (kwd := []) K11.ob_eq
    (by kernel_rfl) (fun s => by kernel_rfl) K11.run (by kernel_rfl) (by kernel_rfl) (by kernel_rfl) (by rfl) (by first | assumption | decide +kernel) (by decide +kernel) ⟨rfl, rfl, rfl, rfl, rfl, by decide +kernel⟩ ?hw ?hc
  case hw => w_witness2
  case hc =>
    refine PI.walk_ofEB (l := PySem.Challenge.rw_shapewright_k11_substitution) (n := 63) (k := 230) (x := "script") (CX := fun w => L2.CX (PySem.Challenge.rw_shapewright_k11_substitution).prog w) rfl (by decide) (by kernel_rfl) ⟨rfl, by decide, by decide⟩ ?F ?X
    case F =>
      intro w mg fa h Y G hmg0
      obtain ⟨K, KX, c, cx⟩ := Y
      have hmg : mg ("law" : PySem.Str) = some (.ref fa) := by
        have e : (HandSHeadRun.topDef (OpenLaw.row PySem.Challenge.rw_shapewright_k11_substitution).prog 24).name = ("law" : PySem.Str) := by kernel_rfl
        rw [← e]
        exact hmg0
      obtain ⟨fd, hb, hF⟩ := K11.facts (P := (PySem.Challenge.rw_shapewright_k11_substitution).prog) (w := w) KX G hmg c cx
      exact ⟨K, fd, _, KX, hb, fun H a ns hl hbt hO hS => PI.sp_law (K := K) rfl K11.plain H a ns hl hbt hO hS, hF⟩
    case X =>
      intro w H s e s' z
      exact PI.cx_none z
