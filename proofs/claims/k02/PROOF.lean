import PyProof.Rows.All
import Wide.All
import OpenK.AllK
import Wide.FinOn
import HandS.ForMost
import HandS.TupAny
import HandS.IsInst
import HandS.Conv
import HandS.Codes
import HandS.Flow
import HandS.Style
import PyProof.NeData
import PyProof.P3In
import HandS.Zip
import HandS.NoneIn
import HandS.Defaults
import HandS.HeadHook2
import HandS.Head0
import HandS.Head1
import HandS.Head2
import HandS.HeadEnd
import PySem.Challenge.RW_loopmenus_k02_names_judged
set_option Elab.async false
set_option linter.all false
set_option maxRecDepth 100000
set_option maxHeartbeats 0
/-! An evaluator for the Python that the program and the laws use: tuples are trees, lists, dicts and instances stand in a store. -/
namespace Lm
abbrev Txt := List Nat

inductive D where
  | non | bl (b : Bool) | int (i : Int) | str (s : Txt) | tup (ds : List D) | lst (ds : List D) | ref (a : Nat) | cls (c : Nat)
  deriving Inhabited

mutual
def D.beq : D → D → Bool
  | .non, .non => true
  | .bl a, .bl b => a == b
  | .int a, .int b => a == b
  | .str a, .str b => a == b
  | .tup a, .tup b => D.beqs a b
  | .lst a, .lst b => D.beqs a b
  | .ref a, .ref b => a == b
  | .cls a, .cls b => a == b
  | _, _ => false
def D.beqs : List D → List D → Bool
  | [], [] => true
  | a :: as, b :: bs => D.beq a b && D.beqs as bs
  | _, _ => false
end
mutual
theorem D.beq_self : ∀ a : D, D.beq a a = true
  | .non => rfl
  | .bl _ => by simp [D.beq]
  | .int _ => by simp [D.beq]
  | .str _ => by simp [D.beq]
  | .tup a => by rw [D.beq]; exact D.beqs_self a
  | .lst a => by rw [D.beq]; exact D.beqs_self a
  | .ref _ => by simp [D.beq]
  | .cls _ => by simp [D.beq]
theorem D.beqs_self : ∀ a : List D, D.beqs a a = true
  | [] => rfl
  | a :: as => by rw [D.beqs, D.beq_self a, D.beqs_self as]; rfl
end
mutual
theorem D.eq_of_beq : ∀ a b : D, D.beq a b = true → a = b := by
  intro a b h
  cases a <;> cases b <;> simp_all [D.beq]
  case tup.tup a b => exact D.eq_of_beqs a b h
  case lst.lst a b => exact D.eq_of_beqs a b h
theorem D.eq_of_beqs : ∀ a b : List D, D.beqs a b = true → a = b
  | [], [], _ => rfl
  | a :: as, b :: bs, h => by
    rw [D.beqs, Bool.and_eq_true] at h
    rw [D.eq_of_beq a b h.1, D.eq_of_beqs as bs h.2]
  | [], _ :: _, h => by simp [D.beqs] at h
  | _ :: _, [], h => by simp [D.beqs] at h
end
instance : DecidableEq D := fun a b => if h : D.beq a b = true then .isTrue (D.eq_of_beq a b h) else .isFalse fun e => h (e ▸ D.beq_self a)

def b2i (b : Bool) : Int := if b then 1 else 0
/-! Python's == on data -/
mutual
def D.eqv : D → D → Bool
  | .non, .non => true
  | .bl a, .bl b => a == b
  | .bl a, .int j => b2i a == j
  | .int i, .bl b => i == b2i b
  | .int a, .int b => a == b
  | .str a, .str b => a == b
  | .tup a, .tup b => D.eqvs a b
  | .lst a, .lst b => D.eqvs a b
  | _, _ => false
def D.eqvs : List D → List D → Bool
  | [], [] => true
  | a :: as, b :: bs => D.eqv a b && D.eqvs as bs
  | _, _ => false
end
/-! no list, no object, no class within -/
mutual
def D.pure : D → Bool
  | .non => true
  | .bl _ => true
  | .int _ => true
  | .str _ => true
  | .tup ds => D.pures ds
  | .lst ds => D.pures ds
  | .ref _ => false
  | .cls _ => false
def D.pures : List D → Bool
  | [] => true
  | a :: as => D.pure a && D.pures as
end
/-- a scalar -/
def D.flat : D → Bool
  | .non => true
  | .bl _ => true
  | .int _ => true
  | .str _ => true
  | _ => false
mutual
def D.rng : D → Bool
  | .non => true
  | .bl _ => true
  | .int _ => true
  | .str s => s.all (decide <| · < 1114112)
  | .tup ds => D.rngs ds
  | .lst ds => D.rngs ds
  | .ref _ => false
  | .cls _ => false
def D.rngs : List D → Bool
  | [] => true
  | a :: as => D.rng a && D.rngs as
end
mutual
def D.dep : D → Nat
  | .tup ds => D.deps ds + 1
  | .lst ds => D.deps ds + 1
  | _ => 0
def D.deps : List D → Nat
  | [] => 0
  | a :: as => max (D.dep a) (D.deps as)
end

inductive O where
  | lst (lk : Bool) (ds : List D)
  | dct (lk : Bool) (kvs : List (D × D))
  | ins (c : Nat) (fs : List (Txt × D))
  | clo (l : Nat) (cs : List D)
  deriving Inhabited, DecidableEq

structure St where
  n : Nat
  get : Nat → Option O
def St.set (S : St) (a : Nat) (o : O) : St := ⟨S.n, fun b => if b = a then some o else S.get b⟩
def St.push (S : St) (o : O) : St := ⟨S.n + 1, fun b => if b = S.n then some o else S.get b⟩

inductive R (α : Type) where
  | ok (a : α) (s : St) | exc (x : D) (s : St) | bad
def R.bnd {α β : Type} (r : R α) (f : α → St → R β) : R β :=
  match r with
  | .ok a s => f a s
  | .exc x s => .exc x s
  | .bad => .bad
@[simp] theorem R.bnd_ok {α β : Type} (a : α) (s : St) (f : α → St → R β) : (R.ok a s).bnd f = f a s := rfl
@[simp] theorem R.bnd_exc {α β : Type} (x : D) (s : St) (f : α → St → R β) : (R.exc x s : R α).bnd f = .exc x s := rfl
@[simp] theorem R.bnd_bad {α β : Type} (f : α → St → R β) : (R.bad : R α).bnd f = .bad := rfl

/-! ### the tree -/
inductive Bin where | add | sub | mul | fdiv | mod | pow | rsh | bor | band
  deriving DecidableEq
inductive Cmp where | eq | ne | lt | le | gt | ge | isn | isnn | inn | nin
  deriving DecidableEq
inductive Bi where | len | int | str | repr | list | tuple | sorted | min1 | min2 | max2 | all | any | sum | dict | set
  deriving DecidableEq
inductive Bm where | append | pop0 | pop1 | index | insert | reverse | join | split | partition | find | upper
  deriving DecidableEq
inductive Ty where | tstr | tint | tbool | tlist | ttuple | tdict | tcls (c : Nat) | tbi (k : Nat)
  deriving DecidableEq
mutual
inductive Tg where
  | n (i : Nat)
  | t (ts : Tgs)
inductive Tgs where
  | nil
  | cons (t : Tg) (r : Tgs)
end
mutual
inductive E where
  | non | bl (b : Bool) | int (i : Int) | str (s : Txt)
  | var (i : Nat)
  | glob (x : Txt) (d : D)
  | tup (es : Es) | lst (es : Es)
  | bin (o : Bin) (a b : E)
  | cmp (o : Cmp) (a b : E)
  | cmp2 (o o' : Cmp) (a b c : E)
  | boo (c : Bool) (es : Es)
  | nt (a : E) | neg (a : E)
  | ite (c a b : E)
  | ix (a i : E) | sl (a : E) (lo hi : Oe)
  | att (a : E) (f : Txt)
  | cal (f : Nat) (es : Es)
  | calk (f : Nat) (es : Es) (ks : List Txt) (kes : Es)
  | mk (c : Nat) (es : Es) (ks : List Txt) (kes : Es)
  | met (o : E) (m : Txt) (es : Es) (ks : List Txt) (kes : Es)
  | cmt (c : Nat) (m : Txt) (es : Es) (ks : List Txt) (kes : Es)
  | calv (i : Nat) (es : Es)
  | bi (b : Bi) (es : Es)
  | isi (a : E) (ts : List Ty)
  | bm (m : Bm) (o : E) (es : Es)
  | lc (e : E) (t : Tg) (i : It) (ifs : Es) (own : List Nat)
  | lc2 (e : E) (t : Tg) (i : It) (ifs : Es) (t2 : Tg) (i2 : It) (ifs2 : Es) (own own2 : List Nat)
  | dc (k v : E) (t : Tg) (i : It) (ifs : Es) (own : List Nat)
  | dic (ps : Ps)
  | fst (ps : Es)
  | lam (l : Nat) (cs : List Nat)
  | ccon (c : Nat) (f : Txt) (d : D)
inductive Es where
  | nil | cons (e : E) (r : Es) | star (e : E) (r : Es)
inductive Oe where
  | no | so (e : E)
inductive Ps where
  | nil | kv (k v : E) (r : Ps) | sp (e : E) (r : Ps)
inductive It where
  | val (e : E) | rng1 (a : E) | rng2 (a b : E) | rng3 (a b c : E) | enum (i : It) | zip (a b : E) | items (e : E) | rev (e : E)
end
mutual
inductive S where
  | asg (t : Tg) (e : E)
  | asgS (a i e : E)
  | asgA (a : E) (f : Txt) (e : E)
  | aug (i : Nat) (o : Bin) (e : E)
  | augA (a : E) (f : Txt) (o : Bin) (e : E)
  | ex (e : E)
  | sup (f : Option Nat) (es : Es)
  | ret (e : E) | retN
  | iff (c : E) (a b : Ss)
  | whl (c : E) (b : Ss)
  | fr (t : Tg) (i : It) (b : Ss)
  | rai (e : E)
  | tr (b : Ss) (cs : List Nat) (i : Option Nat) (h : Ss)
  | pas
  | yld (e : E)
inductive Ss where
  | nil | cons (s : S) (r : Ss)
end

structure FnT where
  npar : Nat
  nsl : Nat
  dfl : List D
  body : Ss
structure ClT where
  init : Option Nat
  meth : List (Txt × Nat)
  prop : List (Txt × Nat)
  cons : List (Txt × D)
  sups : List Nat
  bis : List Nat
structure Prog where
  fn : Nat → Option FnT
  cl : Nat → Option ClT
structure Cn where
  P : Prog
  call : Nat → List D → St → R D
  w : Nat
abbrev Env := List (Option D)

/-! ### operations -/
def lim : Nat := 16777216
def litN (n : Nat) : Txt := (Nat.toDigits 10 n).map Char.toNat
def sInt (i : Int) : Txt := if i < 0 then 45 :: litN i.natAbs else litN i.natAbs

def opBin (o : Bin) (x y : D) (S : St) : R D :=
  match o, x, y with
  | .add, .int i, .int j => .ok (.int (i + j)) S
  | .sub, .int i, .int j => .ok (.int (i - j)) S
  | .mul, .int i, .int j => if (-(2 ^ 64) < i ∧ i < 2 ^ 64) ∨ (-(2 ^ 64) < j ∧ j < 2 ^ 64) then .ok (.int (i * j)) S else .bad
  | .fdiv, .int i, .int j => if 0 < j ∧ j < 1073741824 then .ok (.int (i / j)) S else .bad
  | .mod, .int i, .int j => if 0 < j then .ok (.int (i % j)) S else .bad
  | .pow, .int i, .int j => if 0 ≤ j ∧ j ≤ 1000000 ∧ i.natAbs < 2 ^ 64 then .ok (.int (i ^ j.toNat)) S else .bad
  | .add, .str a, .str b => if a.length + b.length ≤ lim then .ok (.str (a ++ b)) S else .bad
  | .add, .tup a, .tup b => if a.length + b.length ≤ lim then .ok (.tup (a ++ b)) S else .bad
  | .add, .ref a, .ref b =>
    match S.get a, S.get b with
    | some (.lst false xs), some (.lst false ys) => if xs.length + ys.length ≤ lim then .ok (.ref S.n) (S.push (.lst false (xs ++ ys))) else .bad
    | _, _ => .bad
  | .mul, .ref a, .int n =>
    match S.get a with
    | some (.lst false xs) => if n < 9223372036854775808 ∧ -9223372036854775808 ≤ n ∧ xs.length * n.toNat ≤ lim then .ok (.ref S.n) (S.push (.lst false (List.replicate n.toNat xs).flatten)) else .bad
    | _ => .bad
  | _, _, _ => .bad

/-- name op= e -/
def opBinI (o : Bin) (x y : D) (S : St) : R D :=
  match o, x, y with
  | .add, .int i, .int j => .ok (.int (i + j)) S
  | .sub, .int i, .int j => .ok (.int (i - j)) S
  | .mul, .int i, .int j => if (-(2 ^ 64) < i ∧ i < 2 ^ 64) ∨ (-(2 ^ 64) < j ∧ j < 2 ^ 64) then .ok (.int (i * j)) S else .bad
  | _, _, _ => .bad
/-- a value with its lists read -/
def deep : Nat → St → D → Option D
  | 0, _, _ => none
  | n + 1, S, d =>
    match d with
    | .tup ds => (ds.mapM (deep n S)).map .tup
    | .ref a =>
      match S.get a with
      | some (.lst _ ds) => (ds.mapM (deep n S)).map .lst
      | _ => none
    | .lst _ => none
    | .cls _ => none
    | .non => some .non
    | .bl b => some (.bl b)
    | .int i => some (.int i)
    | .str s => some (.str s)
/-- as deep, quick where nothing is to be read -/
def data (S : St) (d : D) : Option D := if d.pure then some d else deep 64 S d

def eqD (S : St) (x y : D) : Option Bool :=
  if x.flat && y.flat then some (D.eqv x y)
  else match data S x, data S y with
    | some a, some b => if a.rng && b.rng && decide (min a.dep b.dep ≤ 64) then some (D.eqv a b) else none
    | _, _ => none
/-- x in the items ds -/
def inD (S : St) (x : D) (ds : List D) : Option Bool :=
  if x.flat && ds.all D.flat then some (ds.any fun z => D.eqv z x)
  else match data S x, ds.mapM (data S) with
    | some a, some es => if a.rng && D.rngs es && decide (a.dep ≤ 64) then some (es.any fun z => D.eqv z a) else none
    | _, _ => none

def look (kvs : List (D × D)) (k : D) : Option D := (kvs.find? fun p => D.eqv p.1 k).map (·.2)
def put (kvs : List (D × D)) (k v : D) : List (D × D) :=
  if (kvs.any fun p => D.eqv p.1 k) = true then kvs.map (fun p => if D.eqv p.1 k then (p.1, v) else p) else kvs ++ [(k, v)]

/-- a key -/
def isKey (k : D) : Bool := k.pure && decide (k.dep ≤ 8)

def opCmp (C : Cn) (o : Cmp) (x y : D) (S : St) : R D :=
  match o with
  | .isn => .ok (.bl (decide (x = .non))) S
  | .isnn => .ok (.bl (!decide (x = .non))) S
  | .lt => match x, y with
    | .int i, .int j => .ok (.bl (decide (i < j))) S
    | .str a, .str b => .ok (.bl (decide (a < b))) S
    | _, _ => .bad
  | .le => match x, y with
    | .int i, .int j => .ok (.bl (decide (i ≤ j))) S
    | .str a, .str b => .ok (.bl (!decide (b < a))) S
    | _, _ => .bad
  | .gt => match x, y with
    | .int i, .int j => .ok (.bl (decide (j < i))) S
    | _, _ => .bad
  | .ge => match x, y with
    | .int i, .int j => .ok (.bl (decide (j ≤ i))) S
    | _, _ => .bad
  | .eq | .ne =>
    match x with
    | .ref a =>
      match S.get a with
      | some (.ins c _) =>
        match (C.P.cl c).bind fun t => t.meth.lookup [95, 95, 101, 113, 95, 95] with
        | some f => (C.call f [x, y] S).bnd fun d S1 => match d with
          | .bl b => .ok (.bl (if o = .eq then b else !b)) S1
          | _ => .bad
        | none => .bad
      | _ => match eqD S x y with
        | some b => .ok (.bl (if o = .eq then b else !b)) S
        | none => .bad
    | _ => match eqD S x y with
      | some b => .ok (.bl (if o = .eq then b else !b)) S
      | none => .bad
  | .inn | .nin =>
    match y with
    | .str b => match x with
      | .str [c] => .ok (.bl (if o = .inn then decide (c ∈ b) else !decide (c ∈ b))) S
      | _ => .bad
    | .tup ds => match inD S x ds with
      | some b => .ok (.bl (if o = .inn then b else !b)) S
      | none => .bad
    | .ref r => match S.get r with
      | some (.lst _ ds) => match inD S x ds with
        | some b => .ok (.bl (if o = .inn then b else !b)) S
        | none => .bad
      | some (.dct _ kvs) => if isKey x then .ok (.bl (if o = .inn then (look kvs x).isSome else !(look kvs x).isSome)) S else .bad
      | some (.ins c _) =>
        match (C.P.cl c).bind fun t => t.meth.lookup [95, 95, 99, 111, 110, 116, 97, 105, 110, 115, 95, 95] with
        | some f => (C.call f [y, x] S).bnd fun d S1 => match d with
          | .bl b => .ok (.bl (if o = .inn then b else !b)) S1
          | _ => .bad
        | none => .bad
      | _ => .bad
    | _ => .bad

def truth (d : D) (S : St) : R Bool :=
  match d with
  | .non => .ok false S
  | .bl b => .ok b S
  | .int i => .ok (decide (i ≠ 0)) S
  | .str s => if s.length ≤ lim then .ok (!s.isEmpty) S else .bad
  | .tup ds => .ok (!ds.isEmpty) S
  | .ref a => match S.get a with
    | some (.lst _ ds) => .ok (!ds.isEmpty) S
    | _ => .bad
  | _ => .bad

def nthI {α : Type} (xs : List α) (i : Int) : Option α :=
  if 0 ≤ i then xs[i.toNat]? else if -(xs.length : Int) ≤ i then xs[(i + xs.length).toNat]? else none

def opIx (C : Cn) (x i : D) (S : St) : R D :=
  match x with
  | .str s => match i with
    | .int k => match nthI s k with
      | some c => if s.length ≤ lim then .ok (.str [c]) S else .bad
      | none => .bad
    | _ => .bad
  | .tup ds => match i with
    | .int k => match nthI ds k with
      | some d => .ok d S
      | none => .bad
    | _ => .bad
  | .ref a => match S.get a with
    | some (.lst _ ds) => match i with
      | .int k => match nthI ds k with
        | some d => .ok d S
        | none => .bad
      | _ => .bad
    | some (.dct _ kvs) => if isKey i then match look kvs i with
        | some d => .ok d S
        | none => .bad
      else .bad
    | some (.ins c _) =>
      match (C.P.cl c).bind fun t => t.meth.lookup [95, 95, 103, 101, 116, 105, 116, 101, 109, 95, 95] with
      | some f => C.call f [x, i] S
      | none => .bad
    | _ => .bad
  | _ => .bad

/-- a slice's bound -/
def bnd (n : Nat) (d : Nat) : Option Int → Nat
  | none => d
  | some i => if i < 0 then (i + n).toNat else min i.toNat n
def cut {α : Type} (xs : List α) (lo hi : Option Int) : List α :=
  let a := bnd xs.length 0 lo
  let b := bnd xs.length xs.length hi
  (xs.drop a).take (b - a)

def opSl (x : D) (lo hi : Option Int) (S : St) : R D :=
  match x with
  | .str s => if s.length ≤ lim then .ok (.str (cut s lo hi)) S else .bad
  | .tup ds => .ok (.tup (cut ds lo hi)) S
  | .ref a => match S.get a with
    | some (.lst _ ds) => .ok (.ref S.n) (S.push (.lst false (cut ds lo hi)))
    | _ => .bad
  | _ => .bad

def opAtt (C : Cn) (x : D) (f : Txt) (S : St) : R D :=
  match x with
  | .ref a => match S.get a with
    | some (.ins c fs) => match fs.lookup f with
      | some d => .ok d S
      | none => match (C.P.cl c) with
        | some t => match t.prop.lookup f with
          | some g => C.call g [x] S
          | none => match t.cons.lookup f with
            | some d => .ok d S
            | none => .bad
        | none => .bad
    | _ => .bad
  | .cls c => match (C.P.cl c) with
    | some t => match t.cons.lookup f with
      | some d => .ok d S
      | none => .bad
    | none => .bad
  | _ => .bad

/-- what is walked: the items, and the objects that must stay as they are meanwhile -/
def itemsOf (x : D) (S : St) : Option (List D × List (Nat × O)) :=
  match x with
  | .str s => some (s.map fun c => .str [c], [])
  | .tup ds => some (ds, [])
  | .ref a => match S.get a with
    | some (.lst lk ds) => some (ds, [(a, .lst lk ds)])
    | _ => none
  | _ => none
/-- zip of two lists, of two tuples -/
def zipItems (x y : D) (S : St) : Option (List D × List (Nat × O)) :=
  match x, y with
  | .ref a, .ref b => match S.get a, S.get b with
    | some (.lst lk ds), some (.lst lk2 es) => some (List.zipWith (fun u v => .tup [u, v]) ds es, [(a, .lst lk ds), (b, .lst lk2 es)])
    | _, _ => none
  | .tup ds, .tup es => some (List.zipWith (fun u v => .tup [u, v]) ds es, [])
  | _, _ => none
def asLst (x : D) (S : St) : Option (List D) :=
  match x with
  | .tup ds => some ds
  | .ref a => match S.get a with
    | some (.lst _ ds) => some ds
    | _ => none
  | _ => none

def isBl : D → Bool
  | .bl _ => true
  | _ => false
def blOf : D → Bool
  | .bl b => b
  | _ => false
def allB (ds : List D) : Option Bool := if ds.all isBl then some (ds.all blOf) else none
def anyB (ds : List D) : Option Bool := if ds.all isBl then some (ds.any blOf) else none
def sumI : List D → Option Int
  | [] => some 0
  | .int i :: r => (sumI r).map (i + ·)
  | _ => none
def joinT (a : Txt) : List Txt → Txt
  | [] => []
  | [s] => s
  | s :: r => s ++ a ++ joinT a r
def txts : List D → Option (List Txt)
  | [] => some []
  | d :: r => match d with
    | .str s => (txts r).map (s :: ·)
    | _ => none

def one (ds : List D) (f : D → R D) : R D := match ds with
  | [x] => f x
  | _ => .bad
def two (ds : List D) (f : D → D → R D) : R D := match ds with
  | [x, y] => f x y
  | _ => .bad
def bLen (S : St) (x : D) : R D := match x with
  | .str s => if s.length ≤ lim then .ok (.int s.length) S else .bad
  | .tup es => .ok (.int es.length) S
  | .ref a => match S.get a with
    | some (.lst _ es) => .ok (.int es.length) S
    | some (.dct _ kvs) => .ok (.int kvs.length) S
    | _ => .bad
  | _ => .bad
def bInt (S : St) (x : D) : R D := match x with
  | .int i => .ok (.int i) S
  | .bl b => .ok (.int (b2i b)) S
  | _ => .bad
def bList (S : St) (x : D) : R D := match asLst x S with
  | some es => .ok (.ref S.n) (S.push (.lst false es))
  | none => .bad
def bTuple (S : St) (x : D) : R D := match asLst x S with
  | some es => .ok (.tup es) S
  | none => .bad
def lstOf (S : St) (x : D) : Option (List D) := match x with
  | .ref a => match S.get a with
    | some (.lst _ ds) => some ds
    | _ => none
  | _ => none
def bAll (S : St) (x : D) : R D := match (lstOf S x).bind allB with
  | some b => .ok (.bl b) S
  | none => .bad
def bAny (S : St) (x : D) : R D := match (lstOf S x).bind anyB with
  | some b => .ok (.bl b) S
  | none => .bad
def bMin2 (S : St) (x y : D) : R D := match x, y with
  | .int i, .int j => .ok (.int (min i j)) S
  | _, _ => .bad
def bMax2 (S : St) (x y : D) : R D := match x, y with
  | .int i, .int j => .ok (.int (max i j)) S
  | _, _ => .bad
def opBi (b : Bi) (ds : List D) (S : St) : R D :=
  match b with
  | .len => one ds (bLen S)
  | .int => one ds (bInt S)
  | .list => one ds (bList S)
  | .tuple => one ds (bTuple S)
  | .all => one ds (bAll S)
  | .any => one ds (bAny S)
  | .min2 => two ds (bMin2 S)
  | .max2 => two ds (bMax2 S)
  | _ => .bad

def mAppend (S : St) (x d : D) : R D := match x with
  | .ref a => match S.get a with
    | some (.lst false es) => if es.length < lim then .ok .non (S.set a (.lst false (es ++ [d]))) else .bad
    | _ => .bad
  | _ => .bad
def mJoin (S : St) (x y : D) : R D := match x with
  | .str t => match (asLst y S).bind txts with
    | some ys => if (ys.map List.length).sum + ys.length * t.length ≤ lim then .ok (.str (joinT t ys)) S else .bad
    | none => .bad
  | _ => .bad
def isL (S : St) (a : Nat) : Bool := match S.get a with
  | some (.lst _ _) => true
  | _ => false
def isRecv (m : Bm) (x : D) (S : St) : Bool := match m with
  | .append => (match x with | .ref a => isL S a | _ => false)
  | .pop0 => (match x with | .ref a => isL S a | _ => false)
  | .pop1 => (match x with | .ref a => isL S a | _ => false)
  | .index => (match x with | .ref a => isL S a | _ => false)
  | .insert => (match x with | .ref a => isL S a | _ => false)
  | .reverse => (match x with | .ref a => isL S a | _ => false)
  | .join => (match x with | .str _ => true | _ => false)
  | .split => (match x with | .str _ => true | _ => false)
  | .partition => (match x with | .str _ => true | _ => false)
  | .find => (match x with | .str _ => true | _ => false)
  | .upper => (match x with | .str _ => true | _ => false)
def opBm (m : Bm) (x : D) (ds : List D) (S : St) : R D :=
  match m with
  | .append => one ds (mAppend S x)
  | .join => one ds (mJoin S x)
  | _ => .bad

/-- the type of a value -/
inductive DT where | nt | bool | int | str | tup | lst | dct | own (c : Nat)
  deriving DecidableEq
def dty (P : Prog) (S : St) : D → Option DT
  | .non => some .nt
  | .bl _ => some .bool
  | .int _ => some .int
  | .str _ => some .str
  | .tup _ => some .tup
  | .ref a => match S.get a with
    | some (.lst _ _) => some .lst
    | some (.dct _ _) => some .dct
    | some (.ins c _) => if (P.cl c).isSome then some (.own c) else none
    | _ => none
  | _ => none
def isDT (P : Prog) : DT → Ty → Bool
  | .str, .tstr => true
  | .int, .tint => true
  | .bool, .tint => true
  | .bool, .tbool => true
  | .lst, .tlist => true
  | .tup, .ttuple => true
  | .dct, .tdict => true
  | .own d, .tcls c => match P.cl d with | some t => t.sups.contains c | none => false
  | .own d, .tbi k => match P.cl d with | some t => t.bis.contains k | none => false
  | _, _ => false

def putF (f : Txt) (d : D) : List (Txt × D) → List (Txt × D)
  | [] => [(f, d)]
  | p :: r => if p.1 = f then (f, d) :: r else p :: putF f d r

/-- the objects stand as they stood -/
def stands (S : St) (l : List (Nat × O)) : Bool := l.all fun p => decide (S.get p.1 = some p.2)

mutual
def asgT : Tg → D → Env → Option Env
  | .n i, d, ρ => some (ρ.set i (some d))
  | .t ts, d, ρ => match d with
    | .tup ds => asgTs ts ds ρ
    | _ => none
def asgTs : Tgs → List D → Env → Option Env
  | .nil, ds, ρ => if ds.isEmpty then some ρ else none
  | .cons t r, ds, ρ => match ds with
    | d :: ds => (asgT t d ρ).bind fun ρ1 => asgTs r ds ρ1
    | [] => none
end
def tlen : Tgs → Nat
  | .nil => 0
  | .cons _ r => tlen r + 1
mutual
def tslots : Tg → List Nat
  | .n i => [i]
  | .t ts => tsslots ts
def tsslots : Tgs → List Nat
  | .nil => []
  | .cons t r => tslots t ++ tsslots r
end
/-- a, b = a list -/
def asgV (t : Tg) (d : D) (ρ : Env) (S : St) : Option Env :=
  match t, d with
  | .t ts, .ref a => match S.get a with
    | some (.lst _ ds) => asgTs ts ds ρ
    | _ => none
  | _, _ => asgT t d ρ

def wipe (ρ : Env) : List Nat → Env
  | [] => ρ
  | i :: r => (wipe ρ r).set i none

/-- a call by positional arguments -/
def callD (C : Cn) (f : Nat) (ds : List D) (S : St) : R D :=
  match C.P.fn f with
  | some F => if ds.length = F.npar then C.call f ds S else .bad
  | none => .bad

/-! ### expressions -/
/-- the loops of comprehensions and for: over the items that are left -/
def lcLoop (g : D → St → R (Option D)) (src : List (Nat × O)) (a : Nat) : List D → List D → St → R Unit
  | [], _, S => .ok () S
  | x :: r, acc, S =>
    if stands S src then (g x S).bnd fun o S1 => match o with
      | some y => if acc.length < lim ∧ S1.get a = some (.lst false acc) then lcLoop g src a r (acc ++ [y]) (S1.set a (.lst false (acc ++ [y]))) else .bad
      | none => lcLoop g src a r acc S1
    else .bad

mutual
def evE (C : Cn) : E → Env → St → R D
  | .non, _, S => .ok .non S
  | .bl b, _, S => .ok (.bl b) S
  | .int i, _, S => .ok (.int i) S
  | .str s, _, S => .ok (.str s) S
  | .var i, ρ, S => match ρ[i]? with
    | some (some d) => .ok d S
    | _ => .bad
  | .glob _ d, _, S => .ok d S
  | .tup es, ρ, S => (evEs C es ρ S).bnd fun ds S1 => if ds.length ≤ lim then .ok (.tup ds) S1 else .bad
  | .lst es, ρ, S => (evEs C es ρ S).bnd fun ds S1 => if ds.length ≤ lim then .ok (.ref S1.n) (S1.push (.lst false ds)) else .bad
  | .bin o a b, ρ, S => (evE C a ρ S).bnd fun x S1 => (evE C b ρ S1).bnd fun y S2 => opBin o x y S2
  | .cmp o a b, ρ, S => (evE C a ρ S).bnd fun x S1 => (evE C b ρ S1).bnd fun y S2 => opCmp C o x y S2
  | .cmp2 o o' a b c, ρ, S => (evE C a ρ S).bnd fun x S1 => (evE C b ρ S1).bnd fun y S2 => (opCmp C o x y S2).bnd fun d S3 =>
    match d with
    | .bl true => (evE C c ρ S3).bnd fun z S4 => opCmp C o' y z S4
    | .bl false => .ok (.bl false) S3
    | _ => .bad
  | .boo c es, ρ, S => evBo C c es ρ S
  | .nt a, ρ, S => ((evE C a ρ S).bnd truth).bnd fun b S1 => .ok (.bl (!b)) S1
  | .neg a, ρ, S => (evE C a ρ S).bnd fun x S1 => match x with
    | .int i => .ok (.int (-i)) S1
    | _ => .bad
  | .ite c a b, ρ, S => ((evE C c ρ S).bnd truth).bnd fun t S1 => if t then evE C a ρ S1 else evE C b ρ S1
  | .ix a i, ρ, S => (evE C a ρ S).bnd fun x S1 => (evE C i ρ S1).bnd fun y S2 => opIx C x y S2
  | .sl a lo hi, ρ, S => (evE C a ρ S).bnd fun x S1 => (evO C lo ρ S1).bnd fun l S2 => (evO C hi ρ S2).bnd fun h S3 => opSl x l h S3
  | .att a f, ρ, S => (evE C a ρ S).bnd fun x S1 => opAtt C x f S1
  | .cal f es, ρ, S => (evEs C es ρ S).bnd fun ds S1 => callD C f ds S1
  | .bi b es, ρ, S => (evEs C es ρ S).bnd fun ds S1 => opBi b ds S1
  | .isi a ts, ρ, S => (evE C a ρ S).bnd fun x S1 => match dty C.P S1 x with
    | some t => .ok (.bl (ts.any (isDT C.P t))) S1
    | none => .bad
  | .bm m o es, ρ, S => (evE C o ρ S).bnd fun x S1 => if isRecv m x S1 then (evEs C es ρ S1).bnd fun ds S2 => opBm m x ds S2 else .bad
  | .lc e t i ifs own, ρ, S => (evI C i ρ S).bnd fun p S1 =>
    (lcLoop (fun x S2 => match asgT t x (wipe ρ own) with
        | some ρ1 => (evIfs C ifs ρ1 S2).bnd fun b S3 => if b then (evE C e ρ1 S3).bnd fun y S4 => .ok (some y) S4 else .ok none S3
        | none => .bad) p.2 S1.n p.1 [] (S1.push (.lst false []))).bnd fun _ S5 => if stands S5 p.2 then .ok (.ref S1.n) S5 else .bad
  | _, _, _ => .bad
/-- and, or -/
def evBo (C : Cn) (c : Bool) : Es → Env → St → R D
  | .nil, _, _ => .bad
  | .star _ _, _, _ => .bad
  | .cons a .nil, ρ, S => evE C a ρ S
  | .cons a r, ρ, S => (evE C a ρ S).bnd fun x S1 => (truth x S1).bnd fun t S2 => if t = c then evBo C c r ρ S2 else .ok x S2
def evEs (C : Cn) : Es → Env → St → R (List D)
  | .nil, _, S => .ok [] S
  | .cons e r, ρ, S => (evE C e ρ S).bnd fun x S1 => (evEs C r ρ S1).bnd fun xs S2 => .ok (x :: xs) S2
  | .star e r, ρ, S => (evE C e ρ S).bnd fun x S1 => match asLst x S1 with
    | some ys => (evEs C r ρ S1).bnd fun xs S2 => .ok (ys ++ xs) S2
    | none => .bad
def evO (C : Cn) : Oe → Env → St → R (Option Int)
  | .no, _, S => .ok none S
  | .so e, ρ, S => (evE C e ρ S).bnd fun x S1 => match x with
    | .int i => .ok (some i) S1
    | _ => .bad
def evIfs (C : Cn) : Es → Env → St → R Bool
  | .nil, _, S => .ok true S
  | .cons e r, ρ, S => ((evE C e ρ S).bnd truth).bnd fun b S1 => if b then evIfs C r ρ S1 else .ok false S1
  | .star _ _, _, _ => .bad
def evI (C : Cn) : It → Env → St → R (List D × List (Nat × O))
  | .val e, ρ, S => (evE C e ρ S).bnd fun x S1 => match itemsOf x S1 with
    | some p => .ok p S1
    | none => .bad
  | .rng1 a, ρ, S => (evE C a ρ S).bnd fun x S1 => match x with
    | .int j => if -(2 ^ 62) ≤ j ∧ j < 2 ^ 62 then .ok ((List.range j.toNat).map fun (k : Nat) => D.int (k : Int), []) S1 else .bad
    | _ => .bad
  | .rng2 a b, ρ, S => (evE C a ρ S).bnd fun x S1 => (evE C b ρ S1).bnd fun y S2 => match x, y with
    | .int i, .int j => if (-(2 ^ 62) ≤ i ∧ i < 2 ^ 62) ∧ (-(2 ^ 62) ≤ j ∧ j < 2 ^ 62) then .ok ((List.range (j - i).toNat).map fun (k : Nat) => D.int (i + (k : Int)), []) S2 else .bad
    | _, _ => .bad
  | .enum i, ρ, S => (evI C i ρ S).bnd fun p S1 => .ok (p.1.zipIdx.map fun q => .tup [.int (q.2 : Int), q.1], p.2) S1
  | .zip a b, ρ, S => (evE C a ρ S).bnd fun x S1 => (evE C b ρ S1).bnd fun y S2 => match zipItems x y S2 with
    | some p => .ok p S2
    | none => .bad
  | _, _, _ => .bad
end

/-! ### statements -/
inductive F where
  | nx (ρ : Env)
  | rt (d : D)

def frLoop (g : D → Env → St → R F) (src : List (Nat × O)) : List D → Env → St → R F
  | [], ρ, S => if stands S src then .ok (.nx ρ) S else .bad
  | x :: r, ρ, S => if stands S src then (g x ρ S).bnd fun f S1 => match f with
      | .nx ρ1 => frLoop g src r ρ1 S1
      | .rt d => .ok (.rt d) S1
    else .bad
def whLoop (t : Env → St → R Bool) (g : Env → St → R F) : Nat → Env → St → R F
  | 0, _, _ => .bad
  | n + 1, ρ, S => (t ρ S).bnd fun b S1 => if b then (g ρ S1).bnd fun f S2 => match f with
      | .nx ρ1 => whLoop t g n ρ1 S2
      | .rt d => .ok (.rt d) S2
    else .ok (.nx ρ) S1

def opSet (C : Cn) (x i v : D) (S : St) : R Unit :=
  match x with
  | .ref a => match S.get a with
    | some (.lst false ds) => match i with
      | .int k => if 0 ≤ k ∧ k < ds.length then .ok () (S.set a (.lst false (ds.set k.toNat v))) else .bad
      | _ => .bad
    | some (.dct false kvs) => if isKey i ∧ kvs.length < lim then .ok () (S.set a (.dct false (put kvs i v))) else .bad
    | some (.ins c _) =>
      match (C.P.cl c).bind fun t => t.meth.lookup [95, 95, 115, 101, 116, 105, 116, 101, 109, 95, 95] with
      | some f => (C.call f [x, i, v] S).bnd fun _ S1 => .ok () S1
      | none => .bad
    | _ => .bad
  | _ => .bad

mutual
def evS (C : Cn) : S → Env → St → R F
  | .asg t e, ρ, S => (evE C e ρ S).bnd fun d S1 => match asgV t d ρ S1 with
    | some ρ1 => .ok (.nx ρ1) S1
    | none => .bad
  | .asgS a i e, ρ, S => (evE C e ρ S).bnd fun v S1 => (evE C a ρ S1).bnd fun x S2 => (evE C i ρ S2).bnd fun k S3 => (opSet C x k v S3).bnd fun _ S4 => .ok (.nx ρ) S4
  | .aug i o e, ρ, S => match ρ[i]? with
    | some (some x) => (evE C e ρ S).bnd fun y S1 => (opBinI o x y S1).bnd fun z S2 => .ok (.nx (ρ.set i (some z))) S2
    | _ => .bad
  | .ex e, ρ, S => (evE C e ρ S).bnd fun _ S1 => .ok (.nx ρ) S1
  | .ret e, ρ, S => (evE C e ρ S).bnd fun d S1 => .ok (.rt d) S1
  | .retN, _, S => .ok (.rt .non) S
  | .iff c a b, ρ, S => ((evE C c ρ S).bnd truth).bnd fun t S1 => if t then evSs C a ρ S1 else evSs C b ρ S1
  | .whl c b, ρ, S => whLoop (fun ρ S => (evE C c ρ S).bnd truth) (evSs C b) C.w ρ S
  | .fr t i b, ρ, S => (evI C i ρ S).bnd fun p S1 => frLoop (fun x ρ1 S2 => match asgT t x ρ1 with
      | some ρ2 => evSs C b ρ2 S2
      | none => .bad) p.2 p.1 ρ S1
  | .pas, ρ, S => .ok (.nx ρ) S
  | _, _, _ => .bad
def evSs (C : Cn) : Ss → Env → St → R F
  | .nil, ρ, S => .ok (.nx ρ) S
  | .cons s r, ρ, S => (evS C s ρ S).bnd fun f S1 => match f with
    | .nx ρ1 => evSs C r ρ1 S1
    | .rt d => .ok (.rt d) S1
end

/-! ### functions -/
def fuel : Nat := 1000000
def evFn (P : Prog) : Nat → Nat → List D → St → R D
  | 0, _, _, _ => .bad
  | d + 1, f, ds, S => match P.fn f with
    | none => .bad
    | some F => if ds.length = F.npar ∧ F.npar ≤ F.nsl then
        (evSs ⟨P, evFn P d, fuel⟩ F.body (ds.map some ++ List.replicate (F.nsl - F.npar) none) S).bnd fun r S1 => match r with
          | .nx _ => .ok .non S1
          | .rt v => .ok v S1
      else .bad
/-- the script handed in -/
def S0 (ns : List Int) : St := ⟨1, fun i => if i = 0 then some (.lst true (ns.map D.int)) else none⟩
end Lm

/-! The evaluator's values and store against the layer's abstract heap. -/
namespace Lm
open PySem PySem.Spec PyProof.Rows L2

def toS (s : Txt) : Str := ⟨s.toArray⟩
theorem toS_inj {a b : Txt} (h : toS a = toS b) : a = b := by
  unfold toS at h
  have h2 := congrArg (fun s : Str => s.cps.toList) h
  simpa using h2

/-- a tuple that stays -/
def TupAt (K : PySem.W.Frag) (H : Hp) (a : Addr) (xs : List V) : Prop :=
  H a = some (.tup xs) ∨ ∃ (o : Obj) (its : Array Value) (n : Nat), K.lookup a = some o ∧ o.cls = .type "tuple" ∧ o.data = .seq its n ∧ its.size ≤ sizeLine ∧ Vals xs its.toList
theorem TupAt.sq {K : PySem.W.Frag} {H : Hp} {a : Addr} {xs : List V} (h : TupAt K H a xs) : SqT K H a xs := by
  rcases h with h | h
  · exact .inl (.inl h)
  · exact .inr h
def Keep (H H' : Hp) : Prop := ∀ b xs, H b = some (.tup xs) → H' b = some (.tup xs)
theorem Keep.refl (H : Hp) : Keep H H := fun _ _ h => h
theorem Keep.trans {H H1 H2 : Hp} (a : Keep H H1) (b : Keep H1 H2) : Keep H H2 := fun c xs h => b c xs (a c xs h)
theorem TupAt.keep {K : PySem.W.Frag} {H H' : Hp} {a : Addr} {xs : List V} (k : Keep H H') (h : TupAt K H a xs) : TupAt K H' a xs := by
  rcases h with h | h
  · exact .inl (k _ _ h)
  · exact .inr h

structure G where
  K : PySem.W.Frag
  cad : Nat → Addr

section
variable (g : G) (ι : Nat → Addr) (n : Nat) (H : Hp)
mutual
def RelD : D → V → Prop
  | .non, v => v = .non
  | .bl b, v => v = .bl b
  | .int i, v => v = .int i
  | .str s, v => v = .str (toS s)
  | .tup ds, v => ∃ a vs, v = .ref a ∧ TupAt g.K H a vs ∧ RelDs ds vs
  | .lst _, _ => False
  | .ref i, v => i < n ∧ v = .ref (ι i)
  | .cls c, v => v = .ref (g.cad c)
def RelDs : List D → List V → Prop
  | [], vs => vs = []
  | d :: ds, vs => ∃ v r, vs = v :: r ∧ RelD d v ∧ RelDs ds r
end
end

section
variable {g : G} {ι ι' : Nat → Addr} {n n' : Nat} {H H' : Hp}
mutual
theorem RelD.mono (hn : n ≤ n') (hi : ∀ i, i < n → ι' i = ι i) (k : Keep H H') : ∀ (d : D) (v : V), RelD g ι n H d v → RelD g ι' n' H' d v
  | .non, v, h => by simpa only [RelD] using h
  | .bl _, v, h => by simpa only [RelD] using h
  | .int _, v, h => by simpa only [RelD] using h
  | .str _, v, h => by simpa only [RelD] using h
  | .tup ds, v, h => by
    rw [RelD] at h ⊢
    obtain ⟨a, vs, e, t, r⟩ := h
    exact ⟨a, vs, e, t.keep k, RelDs.mono hn hi k ds vs r⟩
  | .lst _, v, h => by rw [RelD] at h; exact h.elim
  | .ref i, v, h => by
    rw [RelD] at h ⊢
    exact ⟨Nat.lt_of_lt_of_le h.1 hn, by rw [hi i h.1]; exact h.2⟩
  | .cls _, v, h => by simpa only [RelD] using h
theorem RelDs.mono (hn : n ≤ n') (hi : ∀ i, i < n → ι' i = ι i) (k : Keep H H') : ∀ (ds : List D) (vs : List V), RelDs g ι n H ds vs → RelDs g ι' n' H' ds vs
  | [], vs, h => by simpa only [RelDs] using h
  | d :: ds, vs, h => by
    rw [RelDs] at h ⊢
    obtain ⟨v, r, e, h1, h2⟩ := h
    exact ⟨v, r, e, RelD.mono hn hi k d v h1, RelDs.mono hn hi k ds r h2⟩
end
theorem RelDs.length : ∀ {ds : List D} {vs : List V}, RelDs g ι n H ds vs → ds.length = vs.length
  | [], vs, h => by rw [RelDs] at h; rw [h]; rfl
  | d :: ds, vs, h => by
    rw [RelDs] at h
    obtain ⟨v, r, rfl, _, h2⟩ := h
    simp [RelDs.length h2]
theorem RelDs.nil : RelDs g ι n H [] [] := by rw [RelDs]
theorem RelDs.cons {d : D} {v : V} {ds : List D} {vs : List V} (h : RelD g ι n H d v) (r : RelDs g ι n H ds vs) : RelDs g ι n H (d :: ds) (v :: vs) := by
  rw [RelDs]; exact ⟨v, vs, rfl, h, r⟩
theorem RelDs.append : ∀ {ds es : List D} {vs ws : List V}, RelDs g ι n H ds vs → RelDs g ι n H es ws → RelDs g ι n H (ds ++ es) (vs ++ ws)
  | [], es, vs, ws, h, h2 => by rw [RelDs] at h; subst h; exact h2
  | d :: ds, es, vs, ws, h, h2 => by
    rw [RelDs] at h
    obtain ⟨v, r, rfl, a, b⟩ := h
    exact RelDs.cons a (RelDs.append b h2)
theorem RelDs.get : ∀ {ds : List D} {vs : List V} {i : Nat} {d : D}, RelDs g ι n H ds vs → ds[i]? = some d → ∃ v, vs[i]? = some v ∧ RelD g ι n H d v
  | [], _, _, _, _, e => by simp at e
  | d :: ds, vs, 0, x, h, e => by
    rw [RelDs] at h
    obtain ⟨v, r, rfl, a, b⟩ := h
    simp at e; subst e
    exact ⟨v, rfl, a⟩
  | d :: ds, vs, i + 1, x, h, e => by
    rw [RelDs] at h
    obtain ⟨v, r, rfl, a, b⟩ := h
    obtain ⟨u, h1, h2⟩ := RelDs.get (i := i) b (by simpa using e)
    exact ⟨u, by simpa using h1, h2⟩
theorem RelDs.get' : ∀ {ds : List D} {vs : List V} {i : Nat} {v : V}, RelDs g ι n H ds vs → vs[i]? = some v → ∃ d, ds[i]? = some d ∧ RelD g ι n H d v
  | [], _, _, _, h, e => by rw [RelDs] at h; subst h; simp at e
  | d :: ds, vs, 0, x, h, e => by
    rw [RelDs] at h
    obtain ⟨v, r, rfl, a, b⟩ := h
    simp at e; subst e
    exact ⟨d, rfl, a⟩
  | d :: ds, vs, i + 1, x, h, e => by
    rw [RelDs] at h
    obtain ⟨v, r, rfl, a, b⟩ := h
    obtain ⟨u, h1, h2⟩ := RelDs.get' (i := i) b (by simpa using e)
    exact ⟨u, by simpa using h1, h2⟩
theorem RelDs.set {d : D} {v : V} (h : RelD g ι n H d v) : ∀ {ds : List D} {vs : List V} (i : Nat), RelDs g ι n H ds vs → RelDs g ι n H (ds.set i d) (vs.set i v)
  | [], vs, i, h2 => by rw [RelDs] at h2; subst h2; simp [RelDs]
  | x :: ds, vs, 0, h2 => by
    rw [RelDs] at h2
    obtain ⟨u, r, rfl, a, b⟩ := h2
    exact RelDs.cons h b
  | x :: ds, vs, i + 1, h2 => by
    rw [RelDs] at h2
    obtain ⟨u, r, rfl, a, b⟩ := h2
    exact RelDs.cons a (RelDs.set h i b)
theorem RelDs.drop : ∀ {ds : List D} {vs : List V} (i : Nat), RelDs g ι n H ds vs → RelDs g ι n H (ds.drop i) (vs.drop i)
  | [], vs, i, h2 => by rw [RelDs] at h2; subst h2; simp [RelDs]
  | x :: ds, vs, 0, h2 => h2
  | x :: ds, vs, i + 1, h2 => by
    rw [RelDs] at h2
    obtain ⟨u, r, rfl, a, b⟩ := h2
    exact RelDs.drop i b
theorem RelDs.take : ∀ {ds : List D} {vs : List V} (i : Nat), RelDs g ι n H ds vs → RelDs g ι n H (ds.take i) (vs.take i)
  | [], vs, i, h2 => by rw [RelDs] at h2; subst h2; simp [RelDs]
  | x :: ds, vs, 0, h2 => by simp [RelDs]
  | x :: ds, vs, i + 1, h2 => by
    rw [RelDs] at h2
    obtain ⟨u, r, rfl, a, b⟩ := h2
    exact RelDs.cons a (RelDs.take i b)

def RelFs (g : G) (ι : Nat → Addr) (n : Nat) (H : Hp) : List (Txt × D) → List (Str × V) → Prop
  | [], gs => gs = []
  | p :: fs, gs => ∃ v r, gs = (toS p.1, v) :: r ∧ RelD g ι n H p.2 v ∧ RelFs g ι n H fs r

/-- an object at its address -/
def RelA (g : G) (ι : Nat → Addr) (n : Nat) (H : Hp) : O → Addr → Prop
  | .lst lk ds, a => ∃ vs, RelDs g ι n H ds vs ∧ if lk = true then ∃ o, H a = some (.frz o (.lst vs)) else H a = some (.lst vs)
  | .ins c fs, a => ∃ dx gs, H a = some (.ins (g.cad c) dx gs) ∧ H dx = some (.own a) ∧ RelFs g ι n H fs gs
  | _, _ => False
theorem RelFs.mono (hn : n ≤ n') (hi : ∀ i, i < n → ι' i = ι i) (k : Keep H H') : ∀ (fs : List (Txt × D)) (gs : List (Str × V)), RelFs g ι n H fs gs → RelFs g ι' n' H' fs gs
  | [], gs, h => by simpa only [RelFs] using h
  | p :: fs, gs, h => by
    rw [RelFs] at h ⊢
    obtain ⟨v, r, e, h1, h2⟩ := h
    exact ⟨v, r, e, RelD.mono hn hi k _ v h1, RelFs.mono hn hi k fs r h2⟩

structure RelS (g : G) (ι : Nat → Addr) (S : St) (H : Hp) : Prop where
  obj : ∀ i o, S.get i = some o → RelA g ι S.n H o (ι i)
  inj : ∀ i j, S.get i ≠ none → S.get j ≠ none → ι i = ι j → i = j
  lt : ∀ i, S.get i ≠ none → i < S.n

structure Post (g : G) (ι : Nat → Addr) (S : St) (H : Hp) (ι' : Nat → Addr) (S' : St) (H' : Hp) : Prop where
  le : S.n ≤ S'.n
  ext : ∀ i, i < S.n → ι' i = ι i
  rel : RelS g ι' S' H'
  keep : Keep H H'
theorem Post.refl {S : St} (r : RelS g ι S H) : Post g ι S H ι S H := ⟨Nat.le_refl _, fun _ _ => rfl, r, Keep.refl H⟩
theorem Post.trans {ι1 ι2 : Nat → Addr} {S S1 S2 : St} {H1 H2 : Hp} (a : Post g ι S H ι1 S1 H1) (b : Post g ι1 S1 H1 ι2 S2 H2) : Post g ι S H ι2 S2 H2 :=
  ⟨Nat.le_trans a.le b.le, fun i hi => (b.ext i (Nat.lt_of_lt_of_le hi a.le)).trans (a.ext i hi), b.rel, a.keep.trans b.keep⟩
theorem Post.d {S S' : St} (p : Post g ι S H ι' S' H') {d : D} {v : V} (h : RelD g ι S.n H d v) : RelD g ι' S'.n H' d v := RelD.mono p.le p.ext p.keep d v h
theorem Post.ds {S S' : St} (p : Post g ι S H ι' S' H') {d : List D} {v : List V} (h : RelDs g ι S.n H d v) : RelDs g ι' S'.n H' d v := RelDs.mono p.le p.ext p.keep d v h

theorem RelA.some {S : St} (r : RelS g ι S H) {i : Nat} {o : O} (e : S.get i = some o) : ∃ u, H (ι i) = some u := by
  have h := r.obj i o e
  cases o with
  | lst lk ds =>
    obtain ⟨vs, _, h⟩ := h
    cases lk with
    | false => exact ⟨_, by simpa using h⟩
    | true => obtain ⟨o, h⟩ := (by simpa using h : ∃ o, H (ι i) = Option.some (HO.frz o (.lst vs))); exact ⟨_, h⟩
  | ins c fs => obtain ⟨dx, gs, h, _⟩ := h; exact ⟨_, h⟩
  | dct _ _ => exact h.elim
  | clo _ _ => exact h.elim
/-- an object that stays while new ones come -/
theorem RelA.keep {o : O} {a : Addr} (hn : n ≤ n') (hi : ∀ i, i < n → ι' i = ι i) (k : Keep H H') (ha : H' a = H a) (hd : ∀ dx, H dx = Option.some (.own a) → H' dx = Option.some (.own a)) (h : RelA g ι n H o a) : RelA g ι' n' H' o a := by
  cases o with
  | lst lk ds =>
    obtain ⟨vs, r, h⟩ := h
    refine ⟨vs, RelDs.mono hn hi k ds vs r, ?_⟩
    rw [ha]; exact h
  | ins c fs =>
    obtain ⟨dx, gs, h, h1, h2⟩ := h
    exact ⟨dx, gs, by rw [ha]; exact h, hd dx h1, RelFs.mono hn hi k fs gs h2⟩
  | dct _ _ => exact h.elim
  | clo _ _ => exact h.elim

theorem keep_new {p : Addr} {u : HO} (h : H p = none) : Keep H (upd H p u) := fun b xs e => by rw [upd_ne (ne_of_none e h)]; exact e
theorem keep_mut {a : Addr} {u w : HO} (h : H a = Option.some u) (hu : ∀ xs, u ≠ .tup xs) : Keep H (upd H a w) := fun b xs e => by
  rw [upd_ne]; exact e
  rintro rfl
  rw [h] at e
  exact hu xs (Option.some.inj e)

/-- something new that is no object of the store: a tuple -/
theorem RelS.fresh {S : St} {p : Addr} {u : HO} (r : RelS g ι S H) (h : H p = none) : Post g ι S H ι S (upd H p u) := by
  refine ⟨Nat.le_refl _, fun _ _ => rfl, ⟨fun i o e => ?_, r.inj, r.lt⟩, keep_new h⟩
  obtain ⟨w, hw⟩ := RelA.some r e
  refine RelA.keep (Nat.le_refl _) (fun _ _ => rfl) (keep_new h) (upd_ne (ne_of_none hw h)) (fun dx e => ?_) (r.obj i o e)
  rw [upd_ne (ne_of_none e h)]; exact e

/-- the injection with one more -/
def ext (ι : Nat → Addr) (n : Nat) (p : Addr) : Nat → Addr := fun i => if i = n then p else ι i
theorem ext_same : ext ι n p n = p := by simp [ext]
theorem ext_lt {i : Nat} {p : Addr} (h : i < n) : ext ι n p i = ι i := by simp [ext, Nat.ne_of_lt h]

/-- a new object of the store -/
theorem RelS.push {S : St} {p : Addr} {u : HO} {o : O} (r : RelS g ι S H) (h : H p = none) (ho : RelA g (ext ι S.n p) (S.n + 1) (upd H p u) o p) : Post g ι S H (ext ι S.n p) (S.push o) (upd H p u) := by
  have hx : ∀ i, i < S.n → ext ι S.n p i = ι i := fun i hi => ext_lt hi
  refine ⟨Nat.le_succ _, hx, ⟨fun i q e => ?_, fun i j ei ej e => ?_, fun i e => ?_⟩, keep_new h⟩
  · unfold St.push at e
    simp only at e
    by_cases hi : i = S.n
    · subst hi
      rw [if_pos rfl] at e
      cases e
      rw [ext_same]; exact ho
    · rw [if_neg hi] at e
      have hl := r.lt i (by rw [e]; exact fun z => nomatch z)
      rw [hx i hl]
      obtain ⟨w, hw⟩ := RelA.some r e
      refine RelA.keep (Nat.le_succ _) hx (keep_new h) (upd_ne (ne_of_none hw h)) (fun dx e => ?_) (r.obj i q e)
      rw [upd_ne (ne_of_none e h)]; exact e
  · have at_ : ∀ k, (S.push o).get k ≠ none → k = S.n ∨ (k ≠ S.n ∧ S.get k ≠ none) := fun k hk => by
      by_cases hi : k = S.n
      · exact .inl hi
      · refine .inr ⟨hi, ?_⟩
        simpa [St.push, hi] using hk
    rcases at_ i ei with hi | ⟨ni, hi⟩ <;> rcases at_ j ej with hj | ⟨nj, hj⟩
    · rw [hi, hj]
    · exfalso
      rw [hi, ext_same, hx j (r.lt j hj)] at e
      cases q : S.get j with
      | none => exact hj q
      | some o' =>
        obtain ⟨w, hw⟩ := RelA.some r q
        rw [← e, h] at hw; cases hw
    · exfalso
      rw [hj, ext_same, hx i (r.lt i hi)] at e
      cases q : S.get i with
      | none => exact hi q
      | some o' =>
        obtain ⟨w, hw⟩ := RelA.some r q
        rw [e, h] at hw; cases hw
    · rw [hx i (r.lt i hi), hx j (r.lt j hj)] at e
      exact r.inj i j hi hj e
  · by_cases hi : i = S.n
    · rw [hi]; exact Nat.lt_succ_self _
    · exact Nat.lt_succ_of_lt (r.lt i (by simpa [St.push, hi] using e))

/-- an object of the store is written -/
theorem RelS.write {S : St} {a : Nat} {u w : HO} {o q : O} (r : RelS g ι S H) (hq : S.get a = some q) (h : H (ι a) = Option.some u) (ht : ∀ xs, u ≠ .tup xs) (hw : ∀ b, u ≠ .own b)
    (ho : RelA g ι S.n (upd H (ι a) w) o (ι a)) : Post g ι S H ι (S.set a o) (upd H (ι a) w) := by
  have na : S.get a ≠ none := by rw [hq]; exact fun z => nomatch z
  refine ⟨Nat.le_refl _, fun _ _ => rfl, ⟨fun i x e => ?_, fun i j ei ej e => ?_, fun i e => ?_⟩, keep_mut h ht⟩
  · unfold St.set at e
    simp only at e
    by_cases hi : i = a
    · subst hi
      rw [if_pos rfl] at e
      cases e
      exact ho
    · rw [if_neg hi] at e
      have ni : S.get i ≠ none := by rw [e]; exact fun z => nomatch z
      have ne : ι i ≠ ι a := fun z => hi (r.inj i a ni na z)
      refine RelA.keep (Nat.le_refl _) (fun _ _ => rfl) (keep_mut h ht) (upd_ne ne) (fun dx e => ?_) (r.obj i x e)
      rw [upd_ne]; exact e
      rintro rfl
      rw [h] at e
      exact hw _ (Option.some.inj e)
  · have at_ : ∀ k, (S.set a o).get k ≠ none → S.get k ≠ none := fun k hk => by
      by_cases hi : k = a
      · rw [hi]; exact na
      · simpa [St.set, hi] using hk
    exact r.inj i j (at_ i ei) (at_ j ej) e
  · have : S.get i ≠ none := by
      by_cases hi : i = a
      · rw [hi]; exact na
      · simpa [St.set, hi] using e
    exact r.lt i this
end

/-! ### the slots -/
def RelE (g : G) (ι : Nat → Addr) (n : Nat) (H : Hp) (ρ : Env) (σ : L2.St) : Prop :=
  ρ.length = σ.length ∧ ∀ (i : Nat) (d : D), ρ[i]? = some (some d) → ∃ v, σ[i]? = some (some v) ∧ RelD g ι n H d v
section
variable {g : G} {ι ι' : Nat → Addr} {n n' : Nat} {H H' : Hp} {ρ : Env} {σ : L2.St}
theorem RelE.mono (hn : n ≤ n') (hi : ∀ i, i < n → ι' i = ι i) (k : Keep H H') (h : RelE g ι n H ρ σ) : RelE g ι' n' H' ρ σ :=
  ⟨h.1, fun i d e => let ⟨v, e1, e2⟩ := h.2 i d e; ⟨v, e1, RelD.mono hn hi k d v e2⟩⟩
theorem Post.e {S S' : St} (p : Post g ι S H ι' S' H') (h : RelE g ι S.n H ρ σ) : RelE g ι' S'.n H' ρ σ := h.mono p.le p.ext p.keep
theorem RelE.set {i : Nat} {d : D} {v : V} (h : RelE g ι n H ρ σ) (r : RelD g ι n H d v) : RelE g ι n H (ρ.set i (some d)) (σ.set i (some v)) := by
  refine ⟨by simp [h.1], fun j x e => ?_⟩
  by_cases hj : i = j
  · subst hj
    by_cases hl : i < ρ.length
    · rw [List.getElem?_set_self hl] at e
      cases e
      exact ⟨v, by rw [List.getElem?_set_self (by rw [← h.1]; exact hl)], r⟩
    · rw [List.getElem?_eq_none (by simp; omega)] at e
      cases e
  · rw [List.getElem?_set_ne hj] at e
    obtain ⟨u, e1, e2⟩ := h.2 j x e
    exact ⟨u, by rw [List.getElem?_set_ne hj]; exact e1, e2⟩
theorem RelE.unset {i : Nat} (h : RelE g ι n H ρ σ) : RelE g ι n H (ρ.set i none) (σ.set i none) := by
  refine ⟨by simp [h.1], fun j x e => ?_⟩
  by_cases hj : i = j
  · subst hj
    by_cases hl : i < ρ.length
    · rw [List.getElem?_set_self hl] at e
      cases e
    · rw [List.getElem?_eq_none (by simp; omega)] at e
      cases e
  · rw [List.getElem?_set_ne hj] at e
    obtain ⟨u, e1, e2⟩ := h.2 j x e
    exact ⟨u, by rw [List.getElem?_set_ne hj]; exact e1, e2⟩
theorem RelE.wipe (h : RelE g ι n H ρ σ) : ∀ vs : List Nat, RelE g ι n H (Lm.wipe ρ vs) (L2.wipe σ vs)
  | [] => h
  | v :: vs => (RelE.wipe h vs).unset
end
end Lm

/-! Soundness: expressions. -/
namespace Lm
open PySem PySem.Spec PyProof.Rows L2

def OutD (g : G) (ι : Nat → Addr) (S : St) (H : Hp) (r : R D) (Q : VK) : Prop :=
  match r with
  | .ok d S' => ∀ ι' v H', Post g ι S H ι' S' H' → RelD g ι' S'.n H' d v → Q v H'
  | _ => False
def OutL (g : G) (ι : Nat → Addr) (S : St) (H : Hp) (r : R (List D)) (Q : List V → Hp → Prop) : Prop :=
  match r with
  | .ok ds S' => ∀ ι' vs H', Post g ι S H ι' S' H' → RelDs g ι' S'.n H' ds vs → Q vs H'
  | _ => False
def OutB (g : G) (ι : Nat → Addr) (S : St) (H : Hp) (r : R Bool) (Q : Bool → Hp → Prop) : Prop :=
  match r with
  | .ok b S' => ∀ ι' H', Post g ι S H ι' S' H' → Q b H'
  | _ => False
def rdE (g : G) (C : Cn) (t : E) : TE := fun σ H Q => ∃ ι ρ S, RelS g ι S H ∧ RelE g ι S.n H ρ σ ∧ OutD g ι S H (evE C t ρ S) Q
def rdEs (g : G) (C : Cn) (t : Es) : TA := fun σ H Q => ∃ ι ρ S, RelS g ι S H ∧ RelE g ι S.n H ρ σ ∧ OutL g ι S H (evEs C t ρ S) Q
def rdT (g : G) (C : Cn) (t : E) : TT := fun σ H Q => ∃ ι ρ S, RelS g ι S H ∧ RelE g ι S.n H ρ σ ∧ OutB g ι S H ((evE C t ρ S).bnd truth) Q

section
variable {g : G} {ι ι' : Nat → Addr} {S S' : St} {H H' : Hp} {Q : VK}
theorem OutD.post {r : R D} (h : OutD g ι S H r Q) (p : Post g ι S H ι' S' H') : OutD g ι' S' H' r Q := by
  cases r with
  | ok d S1 => exact fun ι1 v H1 p1 r1 => h ι1 v H1 (p.trans p1) r1
  | exc _ _ => exact h
  | bad => exact h
theorem OutL.post {r : R (List D)} {Q : List V → Hp → Prop} (h : OutL g ι S H r Q) (p : Post g ι S H ι' S' H') : OutL g ι' S' H' r Q := by
  cases r with
  | ok d S1 => exact fun ι1 v H1 p1 r1 => h ι1 v H1 (p.trans p1) r1
  | exc _ _ => exact h
  | bad => exact h
theorem OutB.post {r : R Bool} {Q : Bool → Hp → Prop} (h : OutB g ι S H r Q) (p : Post g ι S H ι' S' H') : OutB g ι' S' H' r Q := by
  cases r with
  | ok d S1 => exact fun ι1 H1 p1 => h ι1 H1 (p.trans p1)
  | exc _ _ => exact h
  | bad => exact h
theorem OutD.val {d : D} {v : V} (h : OutD g ι S H (.ok d S) Q) (r : RelS g ι S H) (rd : RelD g ι S.n H d v) : Q v H := h ι v H (Post.refl r) rd
theorem OutD.int {i : Int} (h : OutD g ι S H (.ok (.int i) S) Q) (r : RelS g ι S H) : Q (.int i) H := h.val r (by rw [RelD])
theorem OutD.bl {b : Bool} (h : OutD g ι S H (.ok (.bl b) S) Q) (r : RelS g ι S H) : Q (.bl b) H := h.val r (by rw [RelD])
theorem OutD.str {s : Txt} (h : OutD g ι S H (.ok (.str s) S) Q) (r : RelS g ι S H) : Q (.str (toS s)) H := h.val r (by rw [RelD])
theorem OutD.non (h : OutD g ι S H (.ok .non S) Q) (r : RelS g ι S H) : Q .non H := h.val r (by rw [RelD])
/-- a new tuple -/
theorem OutD.tup {ds : List D} {vs : List V} (h : OutD g ι S H (.ok (.tup ds) S) Q) (r : RelS g ι S H) (rd : RelDs g ι S.n H ds vs) {p : Addr} (hp : H p = none) : Q (.ref p) (upd H p (.tup vs)) := by
  have po := r.fresh (u := .tup vs) hp
  refine h ι _ _ po ?_
  rw [RelD]
  exact ⟨p, vs, rfl, .inl upd_same, po.ds rd⟩
/-- a new list -/
theorem OutD.lst {ds : List D} {vs : List V} (h : OutD g ι S H (.ok (.ref S.n) (S.push (.lst false ds))) Q) (r : RelS g ι S H) (rd : RelDs g ι S.n H ds vs) {p : Addr} (hp : H p = none) : Q (.ref p) (upd H p (.lst vs)) := by
  have po : Post g ι S H (ext ι S.n p) (S.push (.lst false ds)) (upd H p (.lst vs)) := r.push hp ⟨vs, RelDs.mono (Nat.le_succ _) (fun i hi => ext_lt hi) (keep_new hp) _ _ rd, by simp [upd_same]⟩
  refine h _ _ _ po ?_
  rw [RelD]
  exact ⟨Nat.lt_succ_self _, by rw [ext_same]⟩
end

/-! ### from the left -/
section
variable {g : G} {C : Cn}
theorem bnd_ok {α β : Type} {r : R α} {f : α → St → R β} {g : R β → Prop} (hb : ¬ g .bad) (he : ∀ x s, ¬ g (.exc x s)) (h : g (r.bnd f)) : ∃ a S, r = .ok a S ∧ g (f a S) := by
  cases r with
  | ok a S => exact ⟨a, S, rfl, h⟩
  | exc x s => exact absurd h (he x s)
  | bad => exact absurd h hb
theorem OutD.bnd {ι : Nat → Addr} {S : St} {H : Hp} {Q : VK} {α : Type} {r : R α} {f : α → St → R D} (h : OutD g ι S H (r.bnd f) Q) : ∃ a S1, r = .ok a S1 ∧ OutD g ι S H (f a S1) Q :=
  bnd_ok (g := fun r => OutD g ι S H r Q) (fun h => h) (fun _ _ h => h) h
theorem OutL.bnd {ι : Nat → Addr} {S : St} {H : Hp} {Q : List V → Hp → Prop} {α : Type} {r : R α} {f : α → St → R (List D)} (h : OutL g ι S H (r.bnd f) Q) : ∃ a S1, r = .ok a S1 ∧ OutL g ι S H (f a S1) Q :=
  bnd_ok (g := fun r => OutL g ι S H r Q) (fun h => h) (fun _ _ h => h) h
theorem OutB.bnd {ι : Nat → Addr} {S : St} {H : Hp} {Q : Bool → Hp → Prop} {α : Type} {r : R α} {f : α → St → R Bool} (h : OutB g ι S H (r.bnd f) Q) : ∃ a S1, r = .ok a S1 ∧ OutB g ι S H (f a S1) Q :=
  bnd_ok (g := fun r => OutB g ι S H r Q) (fun h => h) (fun _ _ h => h) h
/-- one expression, what comes behind it -/
theorem rdE_of {ι : Nat → Addr} {ρ : Env} {S S1 : St} {H : Hp} {σ : L2.St} {t : E} {d : D} {R : V → Hp → Prop} (r : RelS g ι S H) (re : RelE g ι S.n H ρ σ) (e : evE C t ρ S = .ok d S1)
    (h : ∀ ι1 v H1, Post g ι S H ι1 S1 H1 → RelE g ι1 S1.n H1 ρ σ → RelD g ι1 S1.n H1 d v → R v H1) : rdE g C t σ H R :=
  ⟨ι, ρ, S, r, re, by rw [e]; exact fun ι1 v H1 p rd => h ι1 v H1 p (p.e re) rd⟩
theorem rdEs_of {ι : Nat → Addr} {ρ : Env} {S S1 : St} {H : Hp} {σ : L2.St} {t : Es} {d : List D} {R : List V → Hp → Prop} (r : RelS g ι S H) (re : RelE g ι S.n H ρ σ) (e : evEs C t ρ S = .ok d S1)
    (h : ∀ ι1 v H1, Post g ι S H ι1 S1 H1 → RelE g ι1 S1.n H1 ρ σ → RelDs g ι1 S1.n H1 d v → R v H1) : rdEs g C t σ H R :=
  ⟨ι, ρ, S, r, re, by rw [e]; exact fun ι1 v H1 p rd => h ι1 v H1 p (p.e re) rd⟩
theorem rdT_of {ι : Nat → Addr} {ρ : Env} {S S1 : St} {H : Hp} {σ : L2.St} {t : E} {b : Bool} {R : Bool → Hp → Prop} (r : RelS g ι S H) (re : RelE g ι S.n H ρ σ) (e : (evE C t ρ S).bnd truth = .ok b S1)
    (h : ∀ ι1 H1, Post g ι S H ι1 S1 H1 → RelE g ι1 S1.n H1 ρ σ → R b H1) : rdT g C t σ H R :=
  ⟨ι, ρ, S, r, re, by rw [e]; exact fun ι1 H1 p => h ι1 H1 p (p.e re)⟩
end
theorem _root_.L2.PE.weak {X : Cx} {e : Expr} {t t' : TE} (h : PE X e t) (w : ∀ σ H Q, t' σ H Q → t σ H Q) : PE X e t' := ⟨fun pins s σ H Q I q => h.run pins s σ H Q I (w σ H Q q)⟩
theorem _root_.L2.PT.weak {X : Cx} {e : Expr} {t t' : TT} (h : PT X e t) (w : ∀ σ H Q, t' σ H Q → t σ H Q) : PT X e t' := ⟨fun pins s σ H Q I q => h.run pins s σ H Q I (w σ H Q q)⟩
theorem _root_.L2.PA.weak {X : Cx} {e : List Expr} {t t' : TA} (h : PA X e t) (w : ∀ σ H Q, t' σ H Q → t σ H Q) : PA X e t' := ⟨fun pos pins s σ H Q I q => h.run pos pins s σ H Q I (w σ H Q q)⟩

section
variable {X : Cx} {g : G} {C : Cn} {pos : Pos}
/-! ### constants, names -/
theorem snd_non {j} : PE X (.Constant .none j pos) (rdE g C .non) := pe_non.weak fun σ H Q ⟨ι, ρ, S, r, re, h⟩ => h.non r
theorem snd_bl {b j} : PE X (.Constant (.bool b) j pos) (rdE g C (.bl b)) := pe_bl.weak fun σ H Q ⟨ι, ρ, S, r, re, h⟩ => h.bl r
theorem snd_int {i j} : PE X (.Constant (.int i) j pos) (rdE g C (.int i)) := pe_int.weak fun σ H Q ⟨ι, ρ, S, r, re, h⟩ => h.int r
theorem snd_str {s : Txt} {x : Str} {j} (e : x = toS s) : PE X (.Constant (.str x) j pos) (rdE g C (.str s)) := by
  subst e
  exact pe_str.weak fun σ H Q ⟨ι, ρ, S, r, re, h⟩ => h.str r
theorem snd_var {i : Nat} {x : Str} (hN : X.N[i]? = some x) (hv : Vis X.env.scope x) (hd : (x == ("__debug__" : Str)) = false) (hcd : (x == ("__classdict__" : Str)) = false) : PE X (.Name x pos) (rdE g C (.var i)) :=
  (pe_var (i := i) hN hv hd hcd).weak fun σ H Q ⟨ι, ρ, S, r, re, h⟩ => by
    rw [evE] at h
    cases e : ρ[i]? with
    | none => rw [e] at h; exact h.elim
    | some o =>
      cases o with
      | none => rw [e] at h; exact h.elim
      | some d =>
        rw [e] at h
        obtain ⟨v, e1, r1⟩ := re.2 i d e
        exact ⟨v, e1, h.val r r1⟩
/-- a constant of the module -/
def ConOk (g : G) (mg : Str → Option Value) (p : Txt × D) : Prop := ∃ u v, mg (toS p.1) = some u ∧ RelV v u ∧ ∀ ι n H, RelD g ι n H p.2 v
theorem snd_glob {x : Str} {t : Txt} {d : D} (ex : x = toS t) (hg : Gl X x) (hc : ConOk g X.mg (t, d)) (hd : (x == ("__debug__" : Str)) = false) : PE X (.Name x pos) (rdE g C (.glob t d)) := by
  subst ex
  obtain ⟨u, v, e1, e2, e3⟩ := hc
  exact (pe_glob hg e1 e2 hd).weak fun σ H Q ⟨ι, ρ, S, r, re, h⟩ => h.val r (e3 _ _ _)

/-! ### operators -/
def OpS (X : Cx) (g : G) (f : Value → Value → Sem Value) (F : D → D → St → R D) : Prop :=
  OpR X f (fun x y H Q => ∃ ι S d e, RelS g ι S H ∧ RelD g ι S.n H d x ∧ RelD g ι S.n H e y ∧ OutD g ι S H (F d e S) Q)
theorem snd_two {op : Value → Value → Sem Value} {F : D → D → St → R D} {a b : E} {t : E} (he : ∀ ρ S, evE C t ρ S = (evE C a ρ S).bnd fun x S1 => (evE C b ρ S1).bnd fun y S2 => F x y S2) {σ : L2.St} {H : Hp} {Q : VK} (h : rdE g C t σ H Q) :
    tOp (fun x y H Q => ∃ ι S d e, RelS g ι S H ∧ RelD g ι S.n H d x ∧ RelD g ι S.n H e y ∧ OutD g ι S H (F d e S) Q) (rdE g C a) (rdE g C b) σ H Q := by
  obtain ⟨ι, ρ, S, r, re, h⟩ := h
  rw [he] at h
  obtain ⟨x, S1, e1, h⟩ := h.bnd
  obtain ⟨y, S2, e2, h⟩ := h.bnd
  refine rdE_of r re e1 fun ι1 v H1 p1 re1 r1 => rdE_of p1.rel re1 e2 fun ι2 u H2 p2 re2 r2 => ?_
  exact ⟨ι2, S2, x, y, p2.rel, p2.d r1, r2, h.post (p1.trans p2)⟩
theorem snd_bin {a b : Expr} {ta tb : E} {o : Bin} {op : Operator} (ho : OpS X g (binaryOp op) (opBin o)) (ha : PE X a (rdE g C ta)) (hb : PE X b (rdE g C tb)) : PE X (.BinOp a op b pos) (rdE g C (.bin o ta tb)) :=
  (pe_op ho ha hb).weak fun σ H Q h => snd_two (op := binaryOp op) (fun ρ S => by rw [evE]) h
theorem snd_cmp {a b : Expr} {ta tb : E} {o : Cmp} {op : CmpOp} (ho : OpS X g (compareOp op) (opCmp C o)) (hm : behindInMarks op b = false) (ha : PE X a (rdE g C ta)) (hb : PE X b (rdE g C tb)) : PE X (.Compare a [op] [b] pos) (rdE g C (.cmp o ta tb)) :=
  (pe_cmpR ho ha hb hm).weak fun σ H Q h => snd_two (op := compareOp op) (fun ρ S => by rw [evE]) h

theorem toS_len (a : Txt) : (toS a).length = a.length := by simp [toS, Str.length]
theorem toS_app (a b : Txt) : toS a ++ toS b = toS (a ++ b) := by
  show Str.append (toS a) (toS b) = _
  simp [toS, Str.append]
theorem RelD.int_inv {ι : Nat → Addr} {n : Nat} {H : Hp} {i : Int} {v : V} (h : RelD g ι n H (.int i) v) : v = .int i := by rw [RelD] at h; exact h
theorem RelD.str_inv {ι : Nat → Addr} {n : Nat} {H : Hp} {i : Txt} {v : V} (h : RelD g ι n H (.str i) v) : v = .str (toS i) := by rw [RelD] at h; exact h
theorem RelD.bl_inv {ι : Nat → Addr} {n : Nat} {H : Hp} {i : Bool} {v : V} (h : RelD g ι n H (.bl i) v) : v = .bl i := by rw [RelD] at h; exact h
theorem RelD.non_inv {ι : Nat → Addr} {n : Nat} {H : Hp} {v : V} (h : RelD g ι n H .non v) : v = .non := by rw [RelD] at h; exact h
theorem RelD.tup_inv {ι : Nat → Addr} {n : Nat} {H : Hp} {ds : List D} {v : V} (h : RelD g ι n H (.tup ds) v) : ∃ a vs, v = .ref a ∧ TupAt g.K H a vs ∧ RelDs g ι n H ds vs := by rw [RelD] at h; exact h
theorem RelD.ref_inv {ι : Nat → Addr} {n : Nat} {H : Hp} {i : Nat} {v : V} (h : RelD g ι n H (.ref i) v) : i < n ∧ v = .ref (ι i) := by rw [RelD] at h; exact h
theorem RelS.lst {ι : Nat → Addr} {S : St} {H : Hp} (r : RelS g ι S H) {i : Nat} {lk : Bool} {ds : List D} (e : S.get i = some (.lst lk ds)) : ∃ vs, RelDs g ι S.n H ds vs ∧ SqL g.K H (ι i) vs ∧ (lk = false → H (ι i) = some (.lst vs)) := by
  obtain ⟨vs, h1, h2⟩ := r.obj i _ e
  refine ⟨vs, h1, ?_, ?_⟩
  · cases lk with
    | false => exact .inl (.inl (by simpa using h2))
    | true => exact .inl (.inr (by simpa using h2))
  · intro z; subst z; simpa using h2
theorem inRange64 : (2 : Int) ^ 64 = 18446744073709551616 := by decide

theorem os_add (hK : g.K = X.K) : OpS X g (binaryOp .Add) (opBin .add) := by
  intro pins s σ H x y v u Q I rx ry h
  obtain ⟨ι, S, d, e, r, r1, r2, h⟩ := h
  cases d with
  | int i =>
    cases e with
    | int j =>
      rw [r1.int_inv] at rx; rw [r2.int_inv] at ry
      exact op_add pins s σ H _ _ v u Q I rx ry ⟨i, j, rfl, rfl, OutD.int h r⟩
    | _ => exact h.elim
  | str a =>
    cases e with
    | str b =>
      rw [r1.str_inv] at rx; rw [r2.str_inv] at ry
      simp only [opBin] at h
      split at h
      · rename_i hl
        exact op_add_str pins s σ H _ _ v u Q I rx ry ⟨toS a, toS b, rfl, rfl, by rw [toS_len, toS_len]; exact hl, by rw [toS_app]; exact OutD.str h r⟩
      · exact h.elim
    | _ => exact h.elim
  | tup a =>
    cases e with
    | tup b =>
      obtain ⟨p, xs, ex, t1, q1⟩ := r1.tup_inv
      obtain ⟨q, ys, ey, t2, q2⟩ := r2.tup_inv
      subst ex; subst ey
      simp only [opBin] at h
      split at h
      · rename_i hl
        have l1 := q1.length
        have l2 := q2.length
        refine op_catA pins s σ H _ _ v u Q I rx ry ⟨p, q, xs, ys, rfl, rfl, hK ▸ t1.sq, hK ▸ t2.sq, by rw [← l1, ← l2]; exact hl, fun z => ?_, fun _ z => ?_, fun _ _ c hc => ?_⟩
        · subst z
          have : a = [] := List.eq_nil_of_length_eq_zero l1
          subst this
          exact OutD.val h r (by rw [List.nil_append, RelD]; exact ⟨q, ys, rfl, t2, q2⟩)
        · subst z
          have : b = [] := List.eq_nil_of_length_eq_zero l2
          subst this
          exact OutD.val h r (by rw [List.append_nil, RelD]; exact ⟨p, xs, rfl, t1, q1⟩)
        · exact OutD.tup h r (q1.append q2) hc
      · exact h.elim
    | _ => exact h.elim
  | ref a =>
    cases e with
    | ref b =>
      obtain ⟨h1, ex⟩ := r1.ref_inv
      obtain ⟨h2, ey⟩ := r2.ref_inv
      subst ex; subst ey
      simp only [opBin] at h
      split at h
      · rename_i xs ys e1 e2
        split at h
        · rename_i hl
          obtain ⟨vs, q1, _, f1⟩ := r.lst e1
          obtain ⟨ws, q2, _, f2⟩ := r.lst e2
          exact op_cat pins s σ H _ _ v u Q I rx ry ⟨ι a, ι b, vs, ws, rfl, rfl, f1 rfl, f2 rfl, by rw [← q1.length, ← q2.length]; exact hl, fun p hp => OutD.lst h r (q1.append q2) hp⟩
        · exact h.elim
      · exact h.elim
    | _ => exact h.elim
  | _ => exact h.elim
end
end Lm

/-! Soundness: operators. -/
namespace Lm
open PySem PySem.Spec PyProof.Rows L2

mutual
def toP : D → PyData
  | .non => .none
  | .bl b => .bool b
  | .int i => .int i
  | .str s => .str (toS s)
  | .tup ds => .tuple (toPs ds)
  | .lst ds => .list (toPs ds)
  | .ref _ => .none
  | .cls _ => .none
def toPs : List D → List PyData
  | [] => []
  | d :: ds => toP d :: toPs ds
end
theorem toPs_map : ∀ ds : List D, toPs ds = ds.map toP
  | [] => rfl
  | d :: ds => by rw [toPs, List.map_cons, toPs_map ds]
mutual
theorem toP_dep : ∀ d : D, (toP d).depth = d.dep
  | .non => rfl
  | .bl _ => rfl
  | .int _ => rfl
  | .str _ => rfl
  | .tup ds => by rw [toP, D.dep, PyData.depth, toPs_dep ds]
  | .lst ds => by rw [toP, D.dep, PyData.depth, toPs_dep ds]
  | .ref _ => rfl
  | .cls _ => rfl
theorem toPs_dep : ∀ ds : List D, PyData.depthAll (toPs ds) = D.deps ds
  | [] => rfl
  | d :: ds => by rw [toPs, D.deps, PyData.depthAll, toP_dep d, toPs_dep ds]
end
mutual
theorem toP_lay : ∀ d : D, d.rng = true → (toP d).canLay0 = true
  | .non, _ => rfl
  | .bl _, _ => rfl
  | .int _, _ => rfl
  | .str s, h => by
    rw [toP, PyData.canLay0]
    rw [D.rng] at h
    unfold PyData.strOk toS
    simpa using h
  | .tup ds, h => by rw [toP, PyData.canLay0]; rw [D.rng] at h; exact toPs_lay ds h
  | .lst ds, h => by rw [toP, PyData.canLay0]; rw [D.rng] at h; exact toPs_lay ds h
  | .ref _, h => by simp [D.rng] at h
  | .cls _, h => by simp [D.rng] at h
theorem toPs_lay : ∀ ds : List D, D.rngs ds = true → PyData.canLayAll0 (toPs ds) = true
  | [], _ => rfl
  | d :: ds, h => by
    rw [D.rngs, Bool.and_eq_true] at h
    rw [toPs, PyData.canLayAll0, toP_lay d h.1, toPs_lay ds h.2]; rfl
end
theorem toS_beq (a b : Txt) : (toS a == toS b) = (a == b) := by
  rw [← dec_str]
  by_cases h : a = b
  · subst h; simp
  · have : ¬ toS a = toS b := fun z => h (toS_inj z)
    simp [h, this]
mutual
theorem toP_eqv : ∀ a b : D, a.rng = true → b.rng = true → PyData.eqv (toP a) (toP b) = D.eqv a b
  | .tup a, .tup b, h1, h2 => by rw [toP, toP, PyData.eqv, D.eqv]; rw [D.rng] at h1 h2; exact toPs_eqv a b h1 h2
  | .lst a, .lst b, h1, h2 => by rw [toP, toP, PyData.eqv, D.eqv]; rw [D.rng] at h1 h2; exact toPs_eqv a b h1 h2
  | .str a, .str b, _, _ => by simp only [toP, PyData.eqv, D.eqv]; exact toS_beq a b
  | .non, b, _, h2 => by cases b <;> simp_all [toP, PyData.eqv, D.eqv, D.rng]
  | .bl a, b, _, h2 => by cases b <;> simp_all [toP, PyData.eqv, D.eqv, D.rng, b2i]
  | .int a, b, _, h2 => by cases b <;> simp_all [toP, PyData.eqv, D.eqv, D.rng, b2i]
  | .ref a, b, h1, _ => by simp [D.rng] at h1
  | .cls a, b, h1, _ => by simp [D.rng] at h1
  | .str a, .non, _, _ => by simp [toP, PyData.eqv, D.eqv]
  | .str a, .bl _, _, _ => by simp [toP, PyData.eqv, D.eqv]
  | .str a, .int _, _, _ => by simp [toP, PyData.eqv, D.eqv]
  | .str a, .tup _, _, _ => by simp [toP, PyData.eqv, D.eqv]
  | .str a, .lst _, _, _ => by simp [toP, PyData.eqv, D.eqv]
  | .str a, .ref _, _, h2 => by simp [D.rng] at h2
  | .str a, .cls _, _, h2 => by simp [D.rng] at h2
  | .tup a, .non, _, _ => by simp [toP, PyData.eqv, D.eqv]
  | .tup a, .bl _, _, _ => by simp [toP, PyData.eqv, D.eqv]
  | .tup a, .int _, _, _ => by simp [toP, PyData.eqv, D.eqv]
  | .tup a, .str _, _, _ => by simp [toP, PyData.eqv, D.eqv]
  | .tup a, .lst _, _, _ => by simp [toP, PyData.eqv, D.eqv]
  | .tup a, .ref _, _, h2 => by simp [D.rng] at h2
  | .tup a, .cls _, _, h2 => by simp [D.rng] at h2
  | .lst a, .non, _, _ => by simp [toP, PyData.eqv, D.eqv]
  | .lst a, .bl _, _, _ => by simp [toP, PyData.eqv, D.eqv]
  | .lst a, .int _, _, _ => by simp [toP, PyData.eqv, D.eqv]
  | .lst a, .str _, _, _ => by simp [toP, PyData.eqv, D.eqv]
  | .lst a, .tup _, _, _ => by simp [toP, PyData.eqv, D.eqv]
  | .lst a, .ref _, _, h2 => by simp [D.rng] at h2
  | .lst a, .cls _, _, h2 => by simp [D.rng] at h2
theorem toPs_eqv : ∀ a b : List D, D.rngs a = true → D.rngs b = true → PyData.eqvAll (toPs a) (toPs b) = D.eqvs a b
  | [], [], _, _ => rfl
  | [], _ :: _, _, _ => rfl
  | _ :: _, [], _, _ => rfl
  | a :: as, b :: bs, h1, h2 => by
    rw [D.rngs, Bool.and_eq_true] at h1 h2
    rw [toPs, toPs, PyData.eqvAll, D.eqvs, toP_eqv a b h1.1 h2.1, toPs_eqv as bs h1.2 h2.2]
end

section
variable {g : G} {ι : Nat → Addr} {S : St} {H : Hp}
/-- data without objects -/
theorem dp_all {n : Nat} : ∀ {es : List D} {vs : List V}, (∀ (d : D), d ∈ es → ∀ v, RelD g ι n H d v → Dp g.K H v (toP d)) → RelDs g ι n H es vs → DpAll g.K H vs (toPs es)
  | [], vs, _, r => by rw [RelDs] at r; subst r; exact .nil
  | d :: ds, vs, h, r => by
    rw [RelDs] at r
    obtain ⟨v, w, rfl, r1, r2⟩ := r
    rw [toPs]
    exact .cons (h d (List.mem_cons_self) v r1) (dp_all (fun d hd => h d (List.mem_cons_of_mem _ hd)) r2)
mutual
theorem dp_pure {n : Nat} : ∀ (d : D) (v : V), d.pure = true → RelD g ι n H d v → Dp g.K H v (toP d)
  | .non, v, _, r => by rw [RelD] at r; subst r; exact .non
  | .bl _, v, _, r => by rw [RelD] at r; subst r; exact .bl _
  | .int _, v, _, r => by rw [RelD] at r; subst r; exact .int _
  | .str _, v, _, r => by rw [RelD] at r; subst r; exact .str _
  | .tup ds, v, h, r => by
    rw [RelD] at r
    obtain ⟨a, vs, rfl, t, q⟩ := r
    rw [D.pure] at h
    exact .tup t.sq (dp_pures ds vs h q)
  | .lst ds, v, h, r => by rw [RelD] at r; exact r.elim
  | .ref _, v, h, r => by simp [D.pure] at h
  | .cls _, v, h, r => by simp [D.pure] at h
theorem dp_pures {n : Nat} : ∀ (ds : List D) (vs : List V), D.pures ds = true → RelDs g ι n H ds vs → DpAll g.K H vs (toPs ds)
  | [], vs, _, r => by rw [RelDs] at r; subst r; exact .nil
  | d :: ds, vs, h, r => by
    rw [RelDs] at r
    obtain ⟨v, w, rfl, r1, r2⟩ := r
    rw [D.pures, Bool.and_eq_true] at h
    rw [toPs]
    exact .cons (dp_pure d v h.1 r1) (dp_pures ds w h.2 r2)
end
theorem mapM_cons {α β : Type} {f : α → Option β} {a : α} {as : List α} {bs : List β} (h : (a :: as).mapM f = some bs) : ∃ b r, f a = some b ∧ as.mapM f = some r ∧ bs = b :: r := by
  rw [List.mapM_cons] at h
  cases e : f a with
  | none => rw [e] at h; cases h
  | some b =>
    rw [e] at h
    cases e2 : as.mapM f with
    | none => rw [e2] at h; cases h
    | some r => rw [e2] at h; cases h; exact ⟨b, r, rfl, rfl, rfl⟩
theorem dp_mapM {f : D → Option D} (hf : ∀ (d e : D) (v : V), f d = some e → RelD g ι S.n H d v → Dp g.K H v (toP e)) : ∀ (ds es : List D) (vs : List V), ds.mapM f = some es → RelDs g ι S.n H ds vs → DpAll g.K H vs (toPs es)
  | [], es, vs, h, r => by
    rw [RelDs] at r; subst r
    rw [List.mapM_nil] at h; cases h
    exact .nil
  | d :: ds, es, vs, h, r => by
    obtain ⟨b, q, e1, e2, rfl⟩ := mapM_cons h
    rw [RelDs] at r
    obtain ⟨v, w, rfl, r1, r2⟩ := r
    rw [toPs]
    exact .cons (hf d b v e1 r1) (dp_mapM hf ds q w e2 r2)
theorem dp_deep (rs : RelS g ι S H) : ∀ (n : Nat) (d e : D) (v : V), deep n S d = some e → RelD g ι S.n H d v → Dp g.K H v (toP e)
  | 0, d, e, v, h, _ => by simp [deep] at h
  | n + 1, d, e, v, h, r => by
    cases d with
    | non => simp only [deep, Option.some.injEq] at h; subst h; rw [RelD] at r; subst r; exact .non
    | bl b => simp only [deep, Option.some.injEq] at h; subst h; rw [RelD] at r; subst r; exact .bl _
    | int b => simp only [deep, Option.some.injEq] at h; subst h; rw [RelD] at r; subst r; exact .int _
    | str b => simp only [deep, Option.some.injEq] at h; subst h; rw [RelD] at r; subst r; exact .str _
    | lst b => simp [deep] at h
    | cls b => simp [deep] at h
    | tup ds =>
      simp only [deep] at h
      cases q : ds.mapM (deep n S) with
      | none => rw [q] at h; cases h
      | some es =>
        rw [q] at h
        simp only [Option.map_some, Option.some.injEq] at h
        subst h
        rw [RelD] at r
        obtain ⟨a, vs, rfl, t, r⟩ := r
        rw [toP]
        exact .tup t.sq (dp_mapM (dp_deep rs n) ds es vs q r)
    | ref a =>
      simp only [deep] at h
      split at h
      · rename_i ds e1
        cases q : ds.mapM (deep n S) with
        | none => rw [q] at h; cases h
        | some es =>
          rw [q] at h
          simp only [Option.map_some, Option.some.injEq] at h
          subst h
          rw [RelD] at r
          obtain ⟨_, rfl⟩ := r
          obtain ⟨vs, r1, r2, _⟩ := rs.lst e1
          rw [toP]
          exact .lst r2 (dp_mapM (dp_deep rs n) ds es vs q r1)
      · cases h
theorem dp_data (rs : RelS g ι S H) {d e : D} {v : V} (h : data S d = some e) (r : RelD g ι S.n H d v) : Dp g.K H v (toP e) := by
  unfold data at h
  split at h
  · rename_i hp
    simp only [Option.some.injEq] at h; subst h
    exact dp_pure d v hp r
  · exact dp_deep rs 64 d e v h r
theorem flat_v {n : Nat} {d : D} {v : V} (h : d.flat = true) (r : RelD g ι n H d v) : flatV v = true := by
  cases d <;> simp_all [D.flat, RelD, flatV]
theorem flat_eq {n m : Nat} {H' : Hp} {ι' : Nat → Addr} {d e : D} {v u : V} (h : d.flat = true) (h2 : e.flat = true) (r : RelD g ι n H d v) (r2 : RelD g ι' m H' e u) : eqV v u = D.eqv d e := by
  cases d <;> cases e <;> simp_all [D.flat, RelD, eqV, D.eqv, b2i, toS_beq]
theorem flats_v {n : Nat} : ∀ {ds : List D} {vs : List V}, ds.all D.flat = true → RelDs g ι n H ds vs → vs.all flatV = true
  | [], vs, _, r => by rw [RelDs] at r; subst r; rfl
  | d :: ds, vs, h, r => by
    rw [RelDs] at r
    obtain ⟨v, w, rfl, r1, r2⟩ := r
    rw [List.all_cons, Bool.and_eq_true] at h
    rw [List.all_cons, flat_v h.1 r1, flats_v h.2 r2]; rfl
theorem flats_in {n : Nat} {x : D} {u : V} (hx : x.flat = true) (rx : RelD g ι n H x u) : ∀ {ds : List D} {vs : List V}, ds.all D.flat = true → RelDs g ι n H ds vs → inV u vs = ds.any fun z => D.eqv z x
  | [], vs, _, r => by rw [RelDs] at r; subst r; rfl
  | d :: ds, vs, h, r => by
    rw [RelDs] at r
    obtain ⟨v, w, rfl, r1, r2⟩ := r
    rw [List.all_cons, Bool.and_eq_true] at h
    have ih := flats_in hx rx h.2 r2
    unfold inV at ih ⊢
    rw [List.any_cons, List.any_cons, ih, flat_eq h.1 hx r1 rx]
end

section
variable {X : Cx} {g : G} {C : Cn} {pos : Pos}
theorem os_sub : OpS X g (binaryOp .Sub) (opBin .sub) := by
  intro pins s σ H x y v u Q I rx ry h
  obtain ⟨ι, S, d, e, r, r1, r2, h⟩ := h
  cases d with
  | int i =>
    cases e with
    | int j =>
      rw [r1.int_inv] at rx; rw [r2.int_inv] at ry
      exact op_sub pins s σ H _ _ v u Q I rx ry ⟨i, j, rfl, rfl, OutD.int h r⟩
    | _ => exact h.elim
  | _ => exact h.elim
theorem os_mul : OpS X g (binaryOp .Mult) (opBin .mul) := by
  intro pins s σ H x y v u Q I rx ry h
  obtain ⟨ι, S, d, e, r, r1, r2, h⟩ := h
  cases d with
  | int i =>
    cases e with
    | int j =>
      rw [r1.int_inv] at rx; rw [r2.int_inv] at ry
      simp only [opBin] at h
      split at h
      · rename_i hc
        exact op_mul pins s σ H _ _ v u Q I rx ry ⟨i, j, rfl, rfl, hc, OutD.int h r⟩
      · exact h.elim
    | _ => exact h.elim
  | ref a =>
    cases e with
    | int k =>
      obtain ⟨_, ex⟩ := r1.ref_inv
      subst ex
      rw [r2.int_inv] at ry
      simp only [opBin] at h
      split at h
      · rename_i xs e1
        split at h
        · rename_i hl
          obtain ⟨vs, q1, _, f1⟩ := r.lst e1
          have hr : ∀ m : Nat, RelDs g ι S.n H (List.replicate m xs).flatten (List.replicate m vs).flatten := fun m => by
            induction m with
            | zero => simp [RelDs]
            | succ m ih => rw [List.replicate_succ, List.replicate_succ, List.flatten_cons, List.flatten_cons]; exact q1.append ih
          exact op_rep pins s σ H _ _ v u Q I rx ry ⟨ι a, k, vs, rfl, rfl, f1 rfl, hl.2.1, hl.1, by rw [← q1.length]; exact hl.2.2, fun p hp => OutD.lst h r (hr _) hp⟩
        · exact h.elim
      · exact h.elim
    | _ => exact h.elim
  | _ => exact h.elim
theorem os_fdiv : OpS X g (binaryOp .FloorDiv) (opBin .fdiv) := by
  intro pins s σ H x y v u Q I rx ry h
  obtain ⟨ι, S, d, e, r, r1, r2, h⟩ := h
  cases d with
  | int i =>
    cases e with
    | int j =>
      rw [r1.int_inv] at rx; rw [r2.int_inv] at ry
      simp only [opBin] at h
      split at h
      · rename_i hc
        exact op_fdiv pins s σ H _ _ v u Q I rx ry ⟨i, j, rfl, rfl, hc, OutD.int h r⟩
      · exact h.elim
    | _ => exact h.elim
  | _ => exact h.elim
theorem os_mod : OpS X g (binaryOp .Mod) (opBin .mod) := by
  intro pins s σ H x y v u Q I rx ry h
  obtain ⟨ι, S, d, e, r, r1, r2, h⟩ := h
  cases d with
  | int i =>
    cases e with
    | int j =>
      rw [r1.int_inv] at rx; rw [r2.int_inv] at ry
      simp only [opBin] at h
      split at h
      · rename_i hc
        exact op_mod pins s σ H _ _ v u Q I rx ry ⟨i, j, rfl, rfl, hc, OutD.int h r⟩
      · exact h.elim
    | _ => exact h.elim
  | _ => exact h.elim
theorem os_pow : OpS X g (binaryOp .Pow) (opBin .pow) := by
  intro pins s σ H x y v u Q I rx ry h
  obtain ⟨ι, S, d, e, r, r1, r2, h⟩ := h
  cases d with
  | int i =>
    cases e with
    | int j =>
      rw [r1.int_inv] at rx; rw [r2.int_inv] at ry
      simp only [opBin] at h
      split at h
      · rename_i hc
        exact op_pow pins s σ H _ _ v u Q I rx ry ⟨i, j, rfl, rfl, hc, OutD.int h r⟩
      · exact h.elim
    | _ => exact h.elim
  | _ => exact h.elim

/-! ### comparisons -/
theorem os_isn : OpS X g (compareOp .Is) (opCmp C .isn) → True := fun _ => trivial
/-- is None -/
theorem snd_isn {a : Expr} {ta : E} {j pos'} (ha : PE X a (rdE g C ta)) : PE X (.Compare a [.Is] [.Constant .none j pos'] pos) (rdE g C (.cmp .isn ta .non)) :=
  (pe_cmp (pc_isN ha)).weak fun σ H Q ⟨ι, ρ, S, r, re, h⟩ => by
    rw [evE] at h
    obtain ⟨x, S1, e1, h⟩ := h.bnd
    refine rdE_of r re e1 fun ι1 v H1 p1 re1 r1 => ?_
    have h := (h.post p1)
    rw [evE, R.bnd_ok, opCmp] at h
    have q := OutD.bl h p1.rel
    have e : decide (v = V.non) = decide (x = D.non) := by cases x <;> simp_all [RelD] <;> (obtain ⟨a, rfl, _⟩ := r1; simp)
    rw [e]; exact q
theorem snd_isnn {a : Expr} {ta : E} {j pos'} (ha : PE X a (rdE g C ta)) : PE X (.Compare a [.IsNot] [.Constant .none j pos'] pos) (rdE g C (.cmp .isnn ta .non)) :=
  (pe_cmp (pc_notN ha)).weak fun σ H Q ⟨ι, ρ, S, r, re, h⟩ => by
    rw [evE] at h
    obtain ⟨x, S1, e1, h⟩ := h.bnd
    refine rdE_of r re e1 fun ι1 v H1 p1 re1 r1 => ?_
    have h := (h.post p1)
    rw [evE, R.bnd_ok, opCmp] at h
    have q := OutD.bl h p1.rel
    have e : decide (v = V.non) = decide (x = D.non) := by cases x <;> simp_all [RelD] <;> (obtain ⟨a, rfl, _⟩ := r1; simp)
    rw [e]; exact q
theorem toS_lt (a b : Txt) : decide ((toS a).cps.toList < (toS b).cps.toList) = decide (a < b) := decide_eq_decide.mpr (by simp [toS])
theorem os_lt : OpS X g (compareOp .Lt) (opCmp C .lt) := by
  intro pins s σ H x y v u Q I rx ry h
  obtain ⟨ι, S, d, e, r, r1, r2, h⟩ := h
  cases d with
  | int i =>
    cases e with
    | int j =>
      rw [r1.int_inv] at rx; rw [r2.int_inv] at ry
      exact op_lt pins s σ H _ _ v u Q I rx ry ⟨i, j, rfl, rfl, OutD.bl h r⟩
    | _ => exact h.elim
  | str a =>
    cases e with
    | str b =>
      rw [r1.str_inv] at rx; rw [r2.str_inv] at ry
      exact op_lt_str pins s σ H _ _ v u Q I rx ry ⟨toS a, toS b, rfl, rfl, by rw [toS_lt]; exact OutD.bl h r⟩
    | _ => exact h.elim
  | _ => exact h.elim
theorem os_le : OpS X g (compareOp .LtE) (opCmp C .le) := by
  intro pins s σ H x y v u Q I rx ry h
  obtain ⟨ι, S, d, e, r, r1, r2, h⟩ := h
  cases d with
  | int i =>
    cases e with
    | int j =>
      rw [r1.int_inv] at rx; rw [r2.int_inv] at ry
      exact op_le pins s σ H _ _ v u Q I rx ry ⟨i, j, rfl, rfl, OutD.bl h r⟩
    | _ => exact h.elim
  | str a =>
    cases e with
    | str b =>
      rw [r1.str_inv] at rx; rw [r2.str_inv] at ry
      exact op_le_str pins s σ H _ _ v u Q I rx ry ⟨toS a, toS b, rfl, rfl, by rw [toS_lt]; exact OutD.bl h r⟩
    | _ => exact h.elim
  | _ => exact h.elim
theorem os_gt : OpS X g (compareOp .Gt) (opCmp C .gt) := by
  intro pins s σ H x y v u Q I rx ry h
  obtain ⟨ι, S, d, e, r, r1, r2, h⟩ := h
  cases d with
  | int i =>
    cases e with
    | int j =>
      rw [r1.int_inv] at rx; rw [r2.int_inv] at ry
      exact op_gt pins s σ H _ _ v u Q I rx ry ⟨i, j, rfl, rfl, OutD.bl h r⟩
    | _ => exact h.elim
  | _ => exact h.elim
theorem os_ge : OpS X g (compareOp .GtE) (opCmp C .ge) := by
  intro pins s σ H x y v u Q I rx ry h
  obtain ⟨ι, S, d, e, r, r1, r2, h⟩ := h
  cases d with
  | int i =>
    cases e with
    | int j =>
      rw [r1.int_inv] at rx; rw [r2.int_inv] at ry
      exact op_ge pins s σ H _ _ v u Q I rx ry ⟨i, j, rfl, rfl, OutD.bl h r⟩
    | _ => exact h.elim
  | _ => exact h.elim

/-- == of data -/
theorem eq_data (hK : g.K = X.K) (hu : X.A.units + 70 < cLine) {pins : List (Addr × Obj)} {s : Shared} {σ : L2.St} {ι : Nat → Addr} {S : St} {H : Hp} {x y : V} {v u : Value} {d e : D} {b : Bool} (I : Inv X pins σ H s) (rx : RelV x v) (ry : RelV y u) (r : RelS g ι S H) (r1 : RelD g ι S.n H d x) (r2 : RelD g ι S.n H e y)
    (h : eqD S d e = some b) (Q : VK) : (Q (.bl b) H → wpAny (model X.prog X.w) X.A (compareOp .Eq v u) (EP X pins σ Q) X.xe s) ∧ (Q (.bl (!b)) H → wpAny (model X.prog X.w) X.A (compareOp .NotEq v u) (EP X pins σ Q) X.xe s) := by
  have key : ∀ a c : D, Dp g.K H x (toP a) → Dp g.K H y (toP c) → a.rng = true → c.rng = true → min a.dep c.dep ≤ 64 → b = D.eqv a c →
      (Q (.bl b) H → wpAny (model X.prog X.w) X.A (compareOp .Eq v u) (EP X pins σ Q) X.xe s) ∧ (Q (.bl (!b)) H → wpAny (model X.prog X.w) X.A (compareOp .NotEq v u) (EP X pins σ Q) X.xe s) := by
    intro a c h1 h2 h3 h4 h5 hb
    rw [hK] at h1 h2
    obtain ⟨as, ra⟩ := Dp.reads I _ x v h1 rx
    obtain ⟨bs, rb⟩ := Dp.reads I _ y u h2 ry
    have hd : X.A.units + min (toP a).depth (toP c).depth < cLine := by rw [toP_dep, toP_dep]; omega
    subst hb
    rw [← toP_eqv a c h3 h4]
    exact ⟨fun q => SeqAt.compareEq_reads ra rb (toP_lay a h3) (toP_lay c h4) hd ⟨.bl _, H, I, rfl, q⟩, fun q => SeqAt.compareNe_reads ra rb (toP_lay a h3) (toP_lay c h4) hd ⟨.bl _, H, I, rfl, q⟩⟩
  unfold eqD at h
  split at h
  · rename_i hf
    rw [Bool.and_eq_true] at hf
    simp only [Option.some.injEq] at h
    by_cases hr : d.rng = true ∧ e.rng = true
    · refine key d e (dp_pure d x ?_ r1) (dp_pure e y ?_ r2) hr.1 hr.2 ?_ h.symm
      · cases d <;> simp_all [D.flat, D.pure]
      · cases e <;> simp_all [D.flat, D.pure]
      · cases d <;> simp_all [D.flat, D.dep]
    · have hs : scal x y = true := by
        cases d <;> cases e <;> simp_all [D.flat, RelD, scal, D.rng]
      have hb : decide (x = y) = b := by
        subst h
        cases d <;> cases e <;> simp_all [D.flat, RelD, D.eqv, D.rng]
        rename_i p q
        by_cases e : p = q
        · subst e; simp
        · have : ¬ toS p = toS q := fun z => e (toS_inj z)
          simp [e, this]
      subst hb
      exact ⟨fun q => op_eq pins s σ H x y v u Q I rx ry ⟨hs, q⟩, fun q => op_ne pins s σ H x y v u Q I rx ry ⟨hs, q⟩⟩
  · split at h
    · rename_i a c e1 e2
      split at h
      · rename_i hc
        simp only [Bool.and_eq_true, decide_eq_true_eq] at hc
        simp only [Option.some.injEq] at h
        exact key a c (dp_data r e1 r1) (dp_data r e2 r2) hc.1.1 hc.1.2 hc.2 h.symm
      · cases h
    · cases h

/-- x in ds -/
theorem in_data (hK : g.K = X.K) (hu : X.A.units + 70 < cLine) {pins : List (Addr × Obj)} {s : Shared} {σ : L2.St} {ι : Nat → Addr} {S : St} {H : Hp} {x : V} {a : Addr} {v u : Value} {d : D} {ds : List D} {vs : List V} {b : Bool} (I : Inv X pins σ H s) (rx : RelV x v) (ry : RelV (.ref a) u) (r : RelS g ι S H) (r1 : RelD g ι S.n H d x)
    (r2 : RelDs g ι S.n H ds vs) (hq : SqL g.K H a vs ∨ SqT g.K H a vs) (h : inD S d ds = some b) (Q : VK) : (Q (.bl b) H → wpAny (model X.prog X.w) X.A (compareOp .In v u) (EP X pins σ Q) X.xe s) ∧ (Q (.bl (!b)) H → wpAny (model X.prog X.w) X.A (compareOp .NotIn v u) (EP X pins σ Q) X.xe s) := by
  unfold inD at h
  split at h
  · rename_i hf
    rw [Bool.and_eq_true] at hf
    simp only [Option.some.injEq] at h
    rw [← flats_in hf.1 r1 hf.2 r2] at h
    subst h
    rw [hK] at hq
    exact ⟨fun q => op_in_seq pins s σ H x (.ref a) v u Q I rx ry ⟨a, vs, rfl, hq, flat_v hf.1 r1, flats_v hf.2 r2, by simpa using q⟩,
      fun q => op_notIn_seq pins s σ H x (.ref a) v u Q I rx ry ⟨a, vs, rfl, hq, flat_v hf.1 r1, flats_v hf.2 r2, by simpa using q⟩⟩
  · split at h
    · rename_i c es e1 e2
      split at h
      · rename_i hc
        simp only [Bool.and_eq_true, decide_eq_true_eq] at hc
        simp only [Option.some.injEq] at h
        have h1 := dp_data r e1 r1
        have h2 := dp_mapM (g := g) (f := data S) (fun d e v h r1 => dp_data r h r1) ds es vs e2 r2
        rw [hK] at h1 h2 hq
        obtain ⟨as, ra⟩ := Dp.reads I _ x v h1 rx
        have hany : ∀ es : List D, D.rngs es = true → (toPs es).any (fun y => PyData.eqv y (toP c)) = es.any fun z => D.eqv z c := by
          intro es
          induction es with
          | nil => intro _; rfl
          | cons z zs ih =>
            intro hz
            rw [D.rngs, Bool.and_eq_true] at hz
            rw [toPs, List.any_cons, List.any_cons, ih hz.2, toP_eqv z c hz.1 hc.1.1]
        have hd : X.A.units + 1 + min (PyData.depthAll (toPs es)) (toP c).depth < cLine := by rw [toP_dep]; omega
        subst h
        rw [← hany es hc.1.2]
        rcases hq with hq | hq
        · obtain ⟨bs, rb⟩ := Dp.reads I (.list (toPs es)) _ u (.lst hq h2) ry
          exact ⟨fun q => SeqAt.in_list_reads rb ra (toPs_lay es hc.1.2) (toP_lay c hc.1.1) hd ⟨.bl _, H, I, rfl, q⟩, fun q => SeqAt.notIn_list_reads rb ra (toPs_lay es hc.1.2) (toP_lay c hc.1.1) hd ⟨.bl _, H, I, rfl, q⟩⟩
        · obtain ⟨bs, rb⟩ := Dp.reads I (.tuple (toPs es)) _ u (.tup hq h2) ry
          exact ⟨fun q => SeqAt.in_tuple_reads rb ra (toPs_lay es hc.1.2) (toP_lay c hc.1.1) hd ⟨.bl _, H, I, rfl, q⟩, fun q => SeqAt.notIn_tuple_reads rb ra (toPs_lay es hc.1.2) (toP_lay c hc.1.1) hd ⟨.bl _, H, I, rfl, q⟩⟩
      · cases h
    · cases h
end
end Lm

/-! Soundness: truth, and, or, not, if, subscripts, slices. -/
namespace Lm
open PySem PySem.Spec PyProof.Rows L2

theorem lim_eq : lim = sizeLine := by rw [sizeLine_eq]; rfl
section
variable {X : Cx} {g : G} {C : Cn} {pos : Pos}

theorem truth_v (hK : g.K = X.K) {ι : Nat → Addr} {S S1 : St} {H : Hp} {d : D} {v : V} {k : Bool} (r : RelS g ι S H) (rd : RelD g ι S.n H d v) (h : truth d S = .ok k S1) : S1 = S ∧ TruV X.K v H k := by
  cases d with
  | non => simp only [truth, R.ok.injEq] at h; rw [RelD] at rd; subst rd; exact ⟨h.2.symm, h.1.symm⟩
  | bl b => simp only [truth, R.ok.injEq] at h; rw [RelD] at rd; subst rd; exact ⟨h.2.symm, h.1.symm⟩
  | int i =>
    simp only [truth, R.ok.injEq] at h; rw [RelD] at rd; subst rd
    refine ⟨h.2.symm, ?_⟩
    show k = (i != 0)
    rw [← h.1]
    by_cases e : i = 0 <;> simp [e]
  | str s =>
    simp only [truth] at h
    split at h
    · rename_i hl
      simp only [R.ok.injEq] at h; rw [RelD] at rd; subst rd
      refine ⟨h.2.symm, by rw [toS_len, ← lim_eq]; exact hl, ?_⟩
      rw [← h.1, toS_len]
      cases s with
      | nil => rfl
      | cons a b =>
        have : ((a :: b).length : Int) ≠ 0 := by rw [List.length_cons]; omega
        simp [this]
        omega
    · cases h
  | tup ds =>
    simp only [truth, R.ok.injEq] at h; rw [RelD] at rd
    obtain ⟨a, vs, rfl, t, q⟩ := rd
    refine ⟨h.2.symm, .inr (.inl ⟨vs, hK ▸ t.sq, ?_⟩)⟩
    rw [← h.1]
    have := q.length
    cases ds <;> cases vs <;> simp_all
  | ref a =>
    simp only [truth] at h
    rw [RelD] at rd
    obtain ⟨_, rfl⟩ := rd
    split at h
    · rename_i ds e1
      simp only [R.ok.injEq] at h
      obtain ⟨vs, q, sq, _⟩ := r.lst e1
      refine ⟨h.2.symm, .inl ⟨vs, hK ▸ sq, ?_⟩⟩
      rw [← h.1]
      have := q.length
      cases ds <;> cases vs <;> simp_all
    · cases h
  | lst ds => simp [truth] at h
  | cls c => simp [truth] at h

/-- a test by its value -/
theorem snd_pt {e : Expr} {t : E} (hK : g.K = X.K) (h : PE X e (rdE g C t)) (he : ∀ whole, isTrue e X.env whole = (do let v ← whole; standAt e.pos; holding [v] (truthy v))) : PT X e (rdT g C t) :=
  (pt_truth h he).weak fun σ H Q ⟨ι, ρ, S, r, re, h⟩ => by
    obtain ⟨d, S1, e1, h⟩ := h.bnd
    refine rdE_of r re e1 fun ι1 v H1 p1 re1 r1 => ?_
    cases q : truth d S1 with
    | exc x s => rw [q] at h; exact h.elim
    | bad => rw [q] at h; exact h.elim
    | ok k S2 =>
      obtain ⟨es, tv⟩ := truth_v (X := X) hK p1.rel r1 q
      subst es
      rw [q] at h
      exact ⟨k, tv, h ι1 H1 p1⟩

/-- what follows a value's truth -/
theorem rdE_tru (hK : g.K = X.K) {ι : Nat → Addr} {ρ : Env} {S S1 S2 : St} {H : Hp} {σ : L2.St} {t : E} {d : D} {k : Bool} {R : V → Hp → Prop} (r : RelS g ι S H) (re : RelE g ι S.n H ρ σ) (e : evE C t ρ S = .ok d S1) (e2 : truth d S1 = .ok k S2)
    (h : ∀ ι1 v H1, Post g ι S H ι1 S2 H1 → RelE g ι1 S2.n H1 ρ σ → RelD g ι1 S2.n H1 d v → TruV X.K v H1 k → R v H1) : rdE g C t σ H R :=
  rdE_of r re e fun ι1 v H1 p1 re1 r1 => by
    obtain ⟨es, tv⟩ := truth_v (X := X) hK p1.rel r1 e2
    subst es
    exact h ι1 v H1 p1 re1 r1 tv

/-! ### and, or -/
/-- the values of a BoolOp as one expression -/
def rdBo (g : G) (C : Cn) (c : Bool) (es : Es) : TE := fun σ H Q => ∃ ι ρ S, RelS g ι S H ∧ RelE g ι S.n H ρ σ ∧ OutD g ι S H (evBo C c es ρ S) Q
theorem snd_bo1 {a : Expr} {t : E} {op : BoolOp} {c : Bool} (h : PE X a (rdE g C t)) : PE X (.BoolOp op [a] pos) (rdBo g C c (.cons t .nil)) :=
  (pe_one h).weak fun σ H Q ⟨ι, ρ, S, r, re, q⟩ => ⟨ι, ρ, S, r, re, by rw [evBo] at q; exact q⟩
def bop (c : Bool) : BoolOp := if c then .And else .Or
theorem snd_bo2 {a b : Expr} {rest : List Expr} {t u : E} {ts : Es} {c : Bool} (hK : g.K = X.K) (h : PE X a (rdE g C t)) (h2 : PE X (.BoolOp (bop c) (b :: rest) pos) (rdBo g C c (.cons u ts))) : PE X (.BoolOp (bop c) (a :: b :: rest) pos) (rdBo g C c (.cons t (.cons u ts))) := by
  have key : ∀ (σ : L2.St) (H : Hp) (Q : VK), rdBo g C c (.cons t (.cons u ts)) σ H Q → rdE g C t σ H fun x H1 => ∃ k, TruV X.K x H1 k ∧ if k = c then rdBo g C c (.cons u ts) σ H1 Q else Q x H1 := by
    rintro σ H Q ⟨ι, ρ, S, r, re, q⟩
    rw [evBo] at q
    · obtain ⟨d, S1, e1, q⟩ := q.bnd
      obtain ⟨k, S2, e2, q⟩ := q.bnd
      refine rdE_tru (X := X) hK r re e1 e2 fun ι1 v H1 p1 re1 r1 tv => ⟨k, tv, ?_⟩
      by_cases hk : k = c
      · rw [if_pos hk] at q ⊢
        exact ⟨ι1, ρ, S2, p1.rel, re1, q.post p1⟩
      · rw [if_neg hk] at q ⊢
        exact (q.post p1).val p1.rel r1
    · intro z; cases z
  cases c with
  | true => exact (pe_andT (pos := pos) h h2).weak key
  | false =>
    refine (pe_orT (pos := pos) h h2).weak fun σ H Q q => ?_
    have := key σ H Q q
    refine ?_
    obtain ⟨ι, ρ, S, r, re, w⟩ := this
    refine ⟨ι, ρ, S, r, re, ?_⟩
    cases e : evE C t ρ S with
    | exc _ _ => rw [e] at w; exact w
    | bad => rw [e] at w; exact w
    | ok d S1 =>
      rw [e] at w
      intro ι1 v H1 p1 r1
      obtain ⟨k, tv, z⟩ := w ι1 v H1 p1 r1
      refine ⟨k, tv, ?_⟩
      cases k <;> simpa using z
theorem snd_boo {e : Expr} {c : Bool} {es : Es} (h : PE X e (rdBo g C c es)) : PE X e (rdE g C (.boo c es)) :=
  h.weak fun σ H Q ⟨ι, ρ, S, r, re, q⟩ => ⟨ι, ρ, S, r, re, by rw [evE] at q; exact q⟩
/-- .. as tests -/
def rdTo (g : G) (C : Cn) (c : Bool) (es : Es) : TT := fun σ H Q => ∃ ι ρ S, RelS g ι S H ∧ RelE g ι S.n H ρ σ ∧ OutB g ι S H ((evBo C c es ρ S).bnd truth) Q
theorem snd_to1 {a : Expr} {t : E} {c : Bool} (h : PT X a (rdT g C t)) : PW X (.BoolOp (bop c) [a] pos) (rdTo g C c (.cons t .nil)) := by
  have h' : PT X a (rdTo g C c (.cons t .nil)) := h.weak fun σ H Q ⟨ι, ρ, S, r, re, q⟩ => ⟨ι, ρ, S, r, re, by rw [evBo] at q; exact q⟩
  cases c with
  | true => exact pw_and1 h'
  | false => exact pw_or1 h'
theorem truth_ok {d : D} {S S' : St} {k : Bool} (h : truth d S = .ok k S') : S' = S := by
  cases d <;> simp only [truth] at h
  case str => split at h <;> simp_all
  case ref => split at h <;> simp_all
  all_goals simp_all
theorem truth_exc {d x : D} {S S' : St} (h : truth d S = .exc x S') : False := by
  cases d <;> simp only [truth] at h
  case str => split at h <;> cases h
  case ref => split at h <;> cases h
  all_goals cases h
theorem snd_to2 {a b : Expr} {rest : List Expr} {t u : E} {ts : Es} {c : Bool} (h : PT X a (rdT g C t)) (h2 : PW X (.BoolOp (bop c) (b :: rest) pos) (rdTo g C c (.cons u ts))) : PW X (.BoolOp (bop c) (a :: b :: rest) pos) (rdTo g C c (.cons t (.cons u ts))) := by
  have key : ∀ (σ : L2.St) (H : Hp) (Q : Bool → Hp → Prop), rdTo g C c (.cons t (.cons u ts)) σ H Q → rdT g C t σ H fun k H1 => if k = c then rdTo g C c (.cons u ts) σ H1 Q else Q k H1 := by
    rintro σ H Q ⟨ι, ρ, S, r, re, q⟩
    rw [evBo] at q
    · obtain ⟨d, S1, e1, q⟩ := q.bnd
      obtain ⟨d0, S0, e1, q0⟩ := bnd_ok (g := fun r => r = R.ok d S1) (by simp) (by simp) e1
      obtain ⟨k, S2, e2, q1⟩ := bnd_ok (g := fun r => r = R.ok d S1) (by simp) (by simp) q0
      have es := truth_ok e2
      subst es
      refine rdT_of (b := k) (S1 := S2) r re (by rw [e1, R.bnd_ok, e2]) fun ι1 H1 p1 re1 => ?_
      by_cases hk : k = c
      · rw [if_pos hk] at q1 ⊢
        exact ⟨ι1, ρ, S2, p1.rel, re1, by rw [q1]; exact q.post p1⟩
      · rw [if_neg hk] at q1 ⊢
        simp only [R.ok.injEq] at q1
        obtain ⟨e3, e4⟩ := q1
        subst e3; subst e4
        rw [e2] at q
        exact q ι1 H1 p1
    · intro z; cases z
  cases c with
  | true =>
    refine ⟨fun wh pins s σ H Q I q => (pw_and (pos := pos) h h2).run wh pins s σ H Q I ?_⟩
    obtain ⟨ι, ρ, S, r, re, w⟩ := key σ H Q q
    refine ⟨ι, ρ, S, r, re, ?_⟩
    cases e : (evE C t ρ S).bnd truth with
    | exc _ _ => rw [e] at w; exact w
    | bad => rw [e] at w; exact w
    | ok k S1 =>
      rw [e] at w
      intro ι1 H1 p1
      have z := w ι1 H1 p1
      cases k <;> simpa using z
  | false =>
    refine ⟨fun wh pins s σ H Q I q => (pw_or (pos := pos) h h2).run wh pins s σ H Q I ?_⟩
    obtain ⟨ι, ρ, S, r, re, w⟩ := key σ H Q q
    refine ⟨ι, ρ, S, r, re, ?_⟩
    cases e : (evE C t ρ S).bnd truth with
    | exc _ _ => rw [e] at w; exact w
    | bad => rw [e] at w; exact w
    | ok k S1 =>
      rw [e] at w
      intro ι1 H1 p1
      have z := w ι1 H1 p1
      cases k <;> simpa using z
theorem snd_too {e : Expr} {c : Bool} {es : Es} (h : PW X e (rdTo g C c es)) : PT X e (rdT g C (.boo c es)) :=
  h.pt.weak fun σ H Q ⟨ι, ρ, S, r, re, q⟩ => ⟨ι, ρ, S, r, re, by rw [evE] at q; exact q⟩

/-! ### not, if -/
theorem snd_nt {a : Expr} {t : E} (hK : g.K = X.K) (h : PE X a (rdE g C t)) : PE X (.UnaryOp .Not a pos) (rdE g C (.nt t)) :=
  (pe_notT (pos := pos) h).weak fun σ H Q ⟨ι, ρ, S, r, re, q⟩ => by
    rw [evE] at q
    obtain ⟨k, S2, e1, q⟩ := q.bnd
    obtain ⟨d, S1, e1, e2⟩ := bnd_ok (g := fun r => r = R.ok k S2) (by simp) (by simp) e1
    exact rdE_tru (X := X) hK r re e1 e2 fun ι1 v H1 p1 re1 r1 tv => ⟨k, tv, (q.post p1).bl p1.rel⟩
theorem snd_tnt {a : Expr} {t : E} (h : PT X a (rdT g C t)) : PT X (.UnaryOp .Not a pos) (rdT g C (.nt t)) :=
  (pt_not (pos := pos) h).weak fun σ H Q ⟨ι, ρ, S, r, re, q⟩ => by
    rw [evE] at q
    obtain ⟨d, S1, e0, q⟩ := q.bnd
    obtain ⟨k, S2, e1, q1⟩ := bnd_ok (g := fun r => r = R.ok d S1) (by simp) (by simp) e0
    simp only [R.ok.injEq] at q1
    obtain ⟨e3, e4⟩ := q1
    subst e3; subst e4
    exact rdT_of r re e1 fun ι1 H1 p1 re1 => q ι1 H1 p1
theorem snd_ite {c a b : Expr} {t u w : E} (hc : PT X c (rdT g C t)) (ha : PE X a (rdE g C u)) (hb : PE X b (rdE g C w)) : PE X (.IfExp c a b pos) (rdE g C (.ite t u w)) :=
  (pe_ifExp (pos := pos) hc ha hb).weak fun σ H Q ⟨ι, ρ, S, r, re, q⟩ => by
    rw [evE] at q
    obtain ⟨k, S1, e1, q⟩ := q.bnd
    refine rdT_of r re e1 fun ι1 H1 p1 re1 => ?_
    cases k with
    | true => exact ⟨ι1, ρ, S1, p1.rel, re1, q.post p1⟩
    | false => exact ⟨ι1, ρ, S1, p1.rel, re1, q.post p1⟩
theorem snd_neg {a : Expr} {t : E} (h : PE X a (rdE g C t)) : PE X (.UnaryOp .USub a pos) (rdE g C (.neg t)) :=
  (pe_un (pos := pos) un_neg h).weak fun σ H Q ⟨ι, ρ, S, r, re, q⟩ => by
    rw [evE] at q
    obtain ⟨d, S1, e1, q⟩ := q.bnd
    refine rdE_of r re e1 fun ι1 v H1 p1 re1 r1 => ?_
    cases d with
    | int i => rw [r1.int_inv]; exact ⟨i, rfl, (q.post p1).int p1.rel⟩
    | _ => exact q.elim

/-! ### subscripts -/
theorem nthI_at {α : Type} (xs : List α) (i : Int) : nthI xs i = atI xs i := by
  unfold nthI atI ixN
  by_cases h : 0 ≤ i
  · rw [if_pos h, if_pos h]
    by_cases h2 : i < xs.length
    · rw [if_pos h2]; rfl
    · rw [if_neg h2, List.getElem?_eq_none (by omega)]; rfl
  · rw [if_neg h, if_neg h]
    split <;> rfl
theorem RelDs.atI {ι : Nat → Addr} {n : Nat} {H : Hp} {ds : List D} {vs : List V} {i : Int} {d : D} (r : RelDs g ι n H ds vs) (e : L2.atI ds i = some d) : ∃ v, L2.atI vs i = some v ∧ RelD g ι n H d v := by
  unfold L2.atI at e ⊢
  rw [r.length] at e
  cases q : ixN vs.length i with
  | none => rw [q] at e; cases e
  | some j => rw [q] at e; exact r.get e
/-- data at a place -/
theorem ix_data (hK : g.K = X.K) : IxR X (fun x y H Q => ∃ ι S d e, RelS g ι S H ∧ RelD g ι S.n H d x ∧ RelD g ι S.n H e y ∧ (∀ a, d = .ref a → ∃ lk ds, S.get a = some (.lst lk ds)) ∧ OutD g ι S H (opIx C d e S) Q) := by
  intro value slice pins s σ H x y v u Q I rx ry h
  obtain ⟨ι, S, d, e, r, r1, r2, hl, h⟩ := h
  cases d with
  | str z =>
    cases e with
    | int k =>
      rw [r1.str_inv] at rx; rw [r2.int_inv] at ry
      simp only [opIx] at h
      split at h
      · rename_i c e1
        split at h
        · rename_i hz
          refine ix_str value slice pins s σ H _ _ v u Q I rx ry ⟨toS z, k, c, rfl, rfl, by rw [toS_len, ← lim_eq]; exact hz, ?_, ?_⟩
          · rw [nthI_at] at e1; simpa [toS] using e1
          · have q := OutD.str h r
            exact q
        · exact h.elim
      · exact h.elim
    | _ => exact h.elim
  | tup ds =>
    cases e with
    | int k =>
      obtain ⟨a, vs, ex, t, q⟩ := r1.tup_inv
      subst ex
      rw [r2.int_inv] at ry
      simp only [opIx] at h
      split at h
      · rename_i c e1
        rw [nthI_at] at e1
        obtain ⟨w, e2, rw2⟩ := q.atI e1
        exact ix_tup value slice pins s σ H _ _ v u Q I rx ry ⟨a, vs, k, w, rfl, rfl, hK ▸ t.sq, e2, OutD.val h r rw2⟩
      · exact h.elim
    | _ => exact h.elim
  | ref a =>
    obtain ⟨_, ex⟩ := r1.ref_inv
    subst ex
    obtain ⟨lk, ds, e0⟩ := hl a rfl
    simp only [opIx, e0] at h
    cases e with
    | int k =>
      rw [r2.int_inv] at ry
      simp only at h
      split at h
      · rename_i c e1
        rw [nthI_at] at e1
        obtain ⟨vs, q, sq, _⟩ := r.lst e0
        obtain ⟨w, e2, rw2⟩ := q.atI e1
        exact ix_list value slice pins s σ H _ _ v u Q I rx ry ⟨ι a, vs, k, w, rfl, rfl, hK ▸ sq, e2, OutD.val h r rw2⟩
      · exact h.elim
    | _ => exact h.elim
  | _ => exact h.elim

/-! ### slices -/
theorem bnd_sIx (n d : Nat) (o : Option Int) : Lm.bnd n d o = HT.sIx n d o := by
  cases o <;> rfl
def rdO (g : G) (C : Cn) (t : Oe) : L2.St → Hp → (Option Int → Hp → Prop) → Prop := fun σ H Q => ∃ ι ρ S, RelS g ι S H ∧ RelE g ι S.n H ρ σ ∧
  match evO C t ρ S with
  | .ok o S' => ∀ ι' H', Post g ι S H ι' S' H' → Q o H'
  | _ => False
theorem snd_po0 : PO X none (rdO g C .no) := ⟨fun pins s σ H Q I ⟨ι, ρ, S, r, re, h⟩ => po_none.run pins s σ H Q I (by rw [evO] at h; exact h ι H (Post.refl r))⟩
theorem snd_po1 {e : Expr} {t : E} (h : PE X e (rdE g C t)) : PO X (some e) (rdO g C (.so t)) := ⟨fun pins s σ H Q I ⟨ι, ρ, S, r, re, q⟩ => (po_some h).run pins s σ H Q I (by
    rw [evO] at q
    cases e1 : evE C t ρ S with
    | exc _ _ => rw [e1] at q; exact q.elim
    | bad => rw [e1] at q; exact q.elim
    | ok d S1 =>
      rw [e1, R.bnd_ok] at q
      refine rdE_of r re e1 fun ι1 v H1 p1 re1 r1 => ?_
      cases d with
      | int i => rw [r1.int_inv]; exact ⟨i, rfl, q ι1 H1 p1⟩
      | _ => exact q.elim)⟩
theorem RelDs.cut {ι : Nat → Addr} {n : Nat} {H : Hp} {ds : List D} {vs : List V} (r : RelDs g ι n H ds vs) (lo hi : Option Int) : RelDs g ι n H (Lm.cut ds lo hi) (cutV vs lo hi) := by
  unfold Lm.cut cutV
  rw [← r.length, bnd_sIx, bnd_sIx]
  exact (r.drop _).take _
theorem sl_data (hK : g.K = X.K) : SlR X (fun x lo hi H Q => ∃ ι S d, RelS g ι S H ∧ RelD g ι S.n H d x ∧ OutD g ι S H (opSl d lo hi S) Q) := by
  intro pins s σ H x v vl vu lo hi sl Q I rx hs pl pu h
  obtain ⟨ι, S, d, r, r1, h⟩ := h
  cases d with
  | str z =>
    rw [r1.str_inv] at rx
    simp only [opSl] at h
    split at h
    · rename_i hz
      refine sl_str pins s σ H _ v vl vu lo hi sl Q I rx hs pl pu ⟨toS z, rfl, by rw [toS_len, ← lim_eq]; exact hz, ?_⟩
      have e : cutS (toS z) lo hi = toS (Lm.cut z lo hi) := by
        unfold cutS Lm.cut
        rw [toS_len, bnd_sIx, bnd_sIx]
        simp [toS]
      rw [e]; exact OutD.str h r
    · exact h.elim
  | tup ds =>
    obtain ⟨a, vs, ex, t, q⟩ := r1.tup_inv
    subst ex
    refine sl_tupA pins s σ H _ v vl vu lo hi sl Q I rx hs pl pu ⟨a, vs, rfl, hK ▸ t.sq, fun z => ?_, fun _ p hp => OutD.tup h r (q.cut lo hi) hp⟩
    have e : Lm.cut ds lo hi = ds := by
      unfold Lm.cut
      rw [bnd_sIx, bnd_sIx, q.length, z.1, z.2]
      simp [← q.length]
    simp only [opSl, e] at h
    exact OutD.val h r r1
  | ref a =>
    obtain ⟨_, ex⟩ := r1.ref_inv
    subst ex
    simp only [opSl] at h
    split at h
    · rename_i lk ds e0
      obtain ⟨vs, q, sq, _⟩ := r.lst e0
      exact sl_list pins s σ H _ v vl vu lo hi sl Q I rx hs pl pu ⟨ι a, vs, rfl, hK ▸ sq, fun p hp => OutD.lst h r (q.cut lo hi) hp⟩
    · exact h.elim
  | _ => exact h.elim
theorem snd_sl {e : Expr} {lo hi : Option Expr} {t : E} {tl th : Oe} {p2 : Pos} (hK : g.K = X.K) (he : PE X e (rdE g C t)) (hl : PO X lo (rdO g C tl)) (hh : PO X hi (rdO g C th)) : PE X (.Subscript e (.Slice lo hi none p2) pos) (rdE g C (.sl t tl th)) :=
  (pe_slice (pos := pos) (p2 := p2) (sl_data hK) he hl hh).weak fun σ H Q ⟨ι, ρ, S, r, re, h⟩ => by
    rw [evE] at h
    obtain ⟨d, S1, e1, h⟩ := h.bnd
    obtain ⟨l, S2, e2, h⟩ := h.bnd
    obtain ⟨u, S3, e3, h⟩ := h.bnd
    refine rdE_of r re e1 fun ι1 v H1 p1 re1 r1 => ?_
    refine ⟨ι1, ρ, S1, p1.rel, re1, ?_⟩
    rw [e2]
    intro ι2 H2 p2
    refine ⟨ι2, ρ, S2, p2.rel, p2.e re1, ?_⟩
    rw [e3]
    intro ι3 H3 p3
    exact ⟨ι3, S3, d, p3.rel, (p2.trans p3).d r1, h.post (p1.trans (p2.trans p3))⟩
end
end Lm

/-! Soundness: displays, built-ins, methods of built-in types. -/
namespace Lm
open PySem PySem.Spec PyProof.Rows L2

def notStar : Expr → Bool
  | .Starred _ _ => false
  | _ => true
theorem starEach_ne {e : Expr} (h : notStar e = true) (es : List Expr) (env : PySem.Env) : starEach (e :: es) env = (false, eval e env) :: starEach es env := by
  cases e <;> first | rfl | (exfalso; revert h; decide) | (exact absurd h (by simp [notStar]))
def noStars (es : List Expr) : Bool := es.all notStar
theorem anyStar_no {es : List Expr} (h : noStars es = true) (pos : Pos) (env : PySem.Env) : (backTo pos (starEach es env)).any (·.1) = false := by
  induction es with
  | nil => rfl
  | cons e es ih =>
    unfold noStars at h ih
    rw [List.all_cons, Bool.and_eq_true] at h
    rw [starEach_ne h.1]
    have := ih h.2
    unfold backTo at this ⊢
    simpa using this

section
variable {X : Cx} {g : G} {C : Cn} {pos : Pos}
theorem snd_nil : PA X [] (rdEs g C .nil) := pa_nil.weak fun σ H Q ⟨ι, ρ, S, r, re, h⟩ => by
  rw [evEs] at h
  exact h ι [] H (Post.refl r) (by rw [RelDs])
theorem snd_cons {e : Expr} {es : List Expr} {t : E} {ts : Es} (hs : notStar e = true) (h : PE X e (rdE g C t)) (h2 : PA X es (rdEs g C ts)) : PA X (e :: es) (rdEs g C (.cons t ts)) :=
  (pa_cons h h2 (starEach_ne hs es X.env)).weak fun σ H Q ⟨ι, ρ, S, r, re, q⟩ => by
    rw [evEs] at q
    obtain ⟨d, S1, e1, q⟩ := q.bnd
    obtain ⟨ds, S2, e2, q⟩ := q.bnd
    exact rdE_of r re e1 fun ι1 v H1 p1 re1 r1 => rdEs_of p1.rel re1 e2 fun ι2 vs H2 p2 re2 r2 => q ι2 (v :: vs) H2 (p1.trans p2) (RelDs.cons (p2.d r1) r2)
theorem snd_tup {es : List Expr} {ts : Es} {k} (h : PA X es (rdEs g C ts)) : PE X (.Tuple es k pos) (rdE g C (.tup ts)) :=
  (pe_tup (pos := pos) (x1 := k) h).weak fun σ H Q ⟨ι, ρ, S, r, re, q⟩ => by
    rw [evE] at q
    obtain ⟨ds, S1, e1, q⟩ := q.bnd
    refine rdEs_of r re e1 fun ι1 vs H1 p1 re1 r1 => ?_
    split at q
    · rename_i hl
      exact ⟨by rw [← r1.length, ← lim_eq]; exact hl, fun p hp => OutD.tup (q.post p1) p1.rel r1 hp⟩
    · exact q.elim
theorem snd_lst {es : List Expr} {ts : Es} (h : PA X es (rdEs g C ts)) : PE X (.List es pos) (rdE g C (.lst ts)) :=
  (pe_lst (pos := pos) h).weak fun σ H Q ⟨ι, ρ, S, r, re, q⟩ => by
    rw [evE] at q
    obtain ⟨ds, S1, e1, q⟩ := q.bnd
    refine rdEs_of r re e1 fun ι1 vs H1 p1 re1 r1 => ?_
    split at q
    · rename_i hl
      exact ⟨by rw [← r1.length, ← lim_eq]; exact hl, fun p hp => OutD.lst (q.post p1) p1.rel r1 hp⟩
    · exact q.elim

/-! ### built-ins -/
/-- a call of a built-in by values -/
def BiS (X : Cx) (g : G) (f : Value) (F : List D → St → R D) : Prop :=
  CallR X f (fun xs H Q => ∃ ι S ds, RelS g ι S H ∧ RelDs g ι S.n H ds xs ∧ OutD g ι S H (F ds S) Q)
theorem snd_args {es : List Expr} {ts : Es} {F : List D → St → R D} {t : E} (he : ∀ ρ S, evE C t ρ S = (evEs C ts ρ S).bnd fun ds S1 => F ds S1) {σ : L2.St} {H : Hp} {Q : VK} (h : rdE g C t σ H Q) :
    tCB (fun xs H Q => ∃ ι S ds, RelS g ι S H ∧ RelDs g ι S.n H ds xs ∧ OutD g ι S H (F ds S) Q) (rdEs g C ts) σ H Q := by
  obtain ⟨ι, ρ, S, r, re, q⟩ := h
  rw [he] at q
  obtain ⟨ds, S1, e1, q⟩ := q.bnd
  exact rdEs_of r re e1 fun ι1 vs H1 p1 re1 r1 => ⟨ι1, S1, ds, p1.rel, r1, q.post p1⟩
theorem snd_biB {x : Str} {p : Pos} {e : Expr} {es : List Expr} {ts : Es} {b : Bi} {id : String} (hc : BiS X g (.builtin id) (opBi b)) (hg : Gl X x) (hm : X.mg x = none) (hv : bootBuiltins x = some (.builtin id)) (hn : x ≠ "__name__") (hd : (x == ("__debug__" : Str)) = false)
    (hs : noStars (e :: es) = true) (ha : PA X (e :: es) (rdEs g C ts)) : PE X (.Call (.Name x p) (e :: es) [] pos) (rdE g C (.bi b ts)) := by
  have hs' := hs
  unfold noStars at hs'
  rw [List.all_cons, Bool.and_eq_true] at hs'
  exact (pe_callB (pos := pos) (p := p) hc hg hm hv ha hn hd (starEach_ne hs'.1 es X.env) (anyStar_no hs'.2 pos X.env)).weak fun σ H Q h => snd_args (es := e :: es) (fun ρ S => by rw [evE]) h
theorem snd_biT {x : Str} {p : Pos} {e : Expr} {es : List Expr} {ts : Es} {b : Bi} {T : String} (hc : BiS X g (.type T) (opBi b)) (hg : Gl X x) (hm : X.mg x = none) (hv : bootBuiltins x = some (.type T)) (hn : x ≠ "__name__") (hd : (x == ("__debug__" : Str)) = false)
    (hs : noStars (e :: es) = true) (ha : PA X (e :: es) (rdEs g C ts)) : PE X (.Call (.Name x p) (e :: es) [] pos) (rdE g C (.bi b ts)) := by
  have hs' := hs
  unfold noStars at hs'
  rw [List.all_cons, Bool.and_eq_true] at hs'
  exact (pe_callTy (pos := pos) (p := p) hc hg hm hv ha hn hd (starEach_ne hs'.1 es X.env) (anyStar_no hs'.2 pos X.env)).weak fun σ H Q h => snd_args (es := e :: es) (fun ρ S => by rw [evE]) h
theorem RelDs.one {ι : Nat → Addr} {n : Nat} {H : Hp} {d : D} {vs : List V} (r : RelDs g ι n H [d] vs) : ∃ v, vs = [v] ∧ RelD g ι n H d v := by
  rw [RelDs] at r
  obtain ⟨v, w, rfl, r1, r2⟩ := r
  rw [RelDs] at r2
  subst r2
  exact ⟨v, rfl, r1⟩
theorem RelDs.two {ι : Nat → Addr} {n : Nat} {H : Hp} {d e : D} {vs : List V} (r : RelDs g ι n H [d, e] vs) : ∃ v u, vs = [v, u] ∧ RelD g ι n H d v ∧ RelD g ι n H e u := by
  rw [RelDs] at r
  obtain ⟨v, w, rfl, r1, r2⟩ := r
  obtain ⟨u, rfl, r3⟩ := r2.one
  exact ⟨v, u, rfl, r1, r3⟩
theorem OutD.one {ds : List D} {f : D → R D} {S : St} {ι : Nat → Addr} {H : Hp} {Q : VK} (h : OutD g ι S H (one ds f) Q) : ∃ x, ds = [x] ∧ OutD g ι S H (f x) Q := by
  rcases ds with _ | ⟨x, _ | ⟨y, r⟩⟩
  · exact h.elim
  · exact ⟨x, rfl, h⟩
  · exact h.elim
theorem OutD.two {ds : List D} {f : D → D → R D} {S : St} {ι : Nat → Addr} {H : Hp} {Q : VK} (h : OutD g ι S H (two ds f) Q) : ∃ x y, ds = [x, y] ∧ OutD g ι S H (f x y) Q := by
  rcases ds with _ | ⟨x, _ | ⟨y, _ | ⟨z, r⟩⟩⟩
  · exact h.elim
  · exact h.elim
  · exact ⟨x, y, rfl, h⟩
  · exact h.elim
theorem bi_len (hK : g.K = X.K) : BiS X g (.builtin "len") (opBi .len) := by
  intro pins s σ H xs us Q I r h
  obtain ⟨ι, S, ds, rs, rd, h⟩ := h
  obtain ⟨x, rfl, h⟩ := h.one
  obtain ⟨v, rfl, rv⟩ := rd.one
  change OutD g ι S H (bLen S x) Q at h
  unfold bLen at h
  split at h
  · rename_i z _
    rw [rv.str_inv] at r
    split at h
    · rename_i hl
      exact call_len_str pins s σ H _ us Q I r ⟨toS z, rfl, by rw [toS_len, ← lim_eq]; exact hl, by rw [toS_len]; exact OutD.int h rs⟩
    · exact h.elim
  · obtain ⟨a, vs, rfl, t, q⟩ := rv.tup_inv
    exact call_len_seq pins s σ H _ us Q I r ⟨a, vs, rfl, .inr (hK ▸ t.sq), by rw [← q.length]; exact OutD.int h rs⟩
  · obtain ⟨_, rfl⟩ := rv.ref_inv
    split at h
    · rename_i lk es e1
      obtain ⟨vs, q, sq, _⟩ := rs.lst e1
      exact call_len_seq pins s σ H _ us Q I r ⟨_, vs, rfl, .inl (hK ▸ sq), by rw [← q.length]; exact OutD.int h rs⟩
    · rename_i e1
      exact (rs.obj _ _ e1).elim
    · exact h.elim
  · exact h.elim
theorem bi_int : BiS X g (.type "int") (opBi .int) := by
  intro pins s σ H xs us Q I r h
  obtain ⟨ι, S, ds, rs, rd, h⟩ := h
  obtain ⟨x, rfl, h⟩ := h.one
  obtain ⟨v, rfl, rv⟩ := rd.one
  change OutD g ι S H (bInt S x) Q at h
  unfold bInt at h
  split at h
  · rename_i i _
    rw [rv.int_inv] at r
    exact call_int1 pins s σ H _ us Q I r (.inl ⟨i, rfl, OutD.int h rs⟩)
  · rename_i b _
    rw [rv.bl_inv] at r
    exact call_int1 pins s σ H _ us Q I r (.inr ⟨b, rfl, OutD.int h rs⟩)
  · exact h.elim
theorem asLst_v {ι : Nat → Addr} {S : St} {H : Hp} {x : D} {v : V} {es : List D} (rs : RelS g ι S H) (rv : RelD g ι S.n H x v) (h : asLst x S = some es) : ∃ a vs, v = .ref a ∧ RelDs g ι S.n H es vs ∧ ((SqL g.K H a vs ∧ ∃ b, x = .ref b) ∨ (SqT g.K H a vs ∧ x = .tup es)) := by
  cases x with
  | tup ds =>
    simp only [asLst, Option.some.injEq] at h
    subst h
    obtain ⟨a, vs, rfl, t, q⟩ := rv.tup_inv
    exact ⟨a, vs, rfl, q, .inr ⟨t.sq, rfl⟩⟩
  | ref a =>
    obtain ⟨_, rfl⟩ := rv.ref_inv
    simp only [asLst] at h
    split at h
    · rename_i lk ds e1
      simp only [Option.some.injEq] at h
      subst h
      obtain ⟨vs, q, sq, _⟩ := rs.lst e1
      exact ⟨ι a, vs, rfl, q, .inl ⟨sq, a, rfl⟩⟩
    · cases h
  | _ => simp [asLst] at h
theorem asLst_or {ι : Nat → Addr} {S : St} {H : Hp} {x : D} {v : V} {es : List D} (rs : RelS g ι S H) (rv : RelD g ι S.n H x v) (h : asLst x S = some es) : ∃ a vs, v = .ref a ∧ RelDs g ι S.n H es vs ∧ (SqL g.K H a vs ∨ SqT g.K H a vs) := by
  obtain ⟨a, vs, e, q, sq⟩ := asLst_v rs rv h
  exact ⟨a, vs, e, q, sq.imp And.left And.left⟩
theorem bi_list (hK : g.K = X.K) : BiS X g (.type "list") (opBi .list) := by
  intro pins s σ H xs us Q I r h
  obtain ⟨ι, S, ds, rs, rd, h⟩ := h
  obtain ⟨x, rfl, h⟩ := h.one
  obtain ⟨v, rfl, rv⟩ := rd.one
  change OutD g ι S H (bList S x) Q at h
  unfold bList at h
  split at h
  · rename_i es e1
    obtain ⟨a, vs, rfl, q, sq⟩ := asLst_or rs rv e1
    exact call_list_of pins s σ H _ us Q I r ⟨a, vs, rfl, hK ▸ sq, fun l hl => OutD.lst h rs q hl⟩
  · exact h.elim
theorem bi_tuple (hK : g.K = X.K) : BiS X g (.type "tuple") (opBi .tuple) := by
  intro pins s σ H xs us Q I r h
  obtain ⟨ι, S, ds, rs, rd, h⟩ := h
  obtain ⟨x, rfl, h⟩ := h.one
  obtain ⟨v, rfl, rv⟩ := rd.one
  change OutD g ι S H (bTuple S x) Q at h
  unfold bTuple at h
  split at h
  · rename_i es e1
    obtain ⟨a, vs, rfl, q, sq⟩ := asLst_v rs rv e1
    refine call_tuple_of pins s σ H _ us Q I r ⟨a, vs, rfl, ?_⟩
    rcases sq with ⟨sq, b, e2⟩ | ⟨sq, e2⟩
    · exact .inl ⟨hK ▸ sq, fun l hl => OutD.tup h rs q hl⟩
    · subst e2
      exact .inr ⟨hK ▸ sq, OutD.val h rs rv⟩
  · exact h.elim
theorem lstOf_v {ι : Nat → Addr} {S : St} {H : Hp} {x : D} {v : V} {es : List D} (rs : RelS g ι S H) (rv : RelD g ι S.n H x v) (h : lstOf S x = some es) : ∃ a vs, v = .ref a ∧ RelDs g ι S.n H es vs ∧ SqL g.K H a vs := by
  unfold lstOf at h
  split at h
  · split at h
    · rename_i lk ds e1
      simp only [Option.some.injEq] at h
      subst h
      obtain ⟨_, rfl⟩ := rv.ref_inv
      obtain ⟨vs, q, sq, _⟩ := rs.lst e1
      exact ⟨_, vs, rfl, q, sq⟩
    · cases h
  · cases h
theorem blOf_v {ι : Nat → Addr} {n : Nat} {H : Hp} : ∀ {ds : List D} {vs : List V}, RelDs g ι n H ds vs → ds.all isBl = true → vs = (ds.map blOf).map V.bl
  | [], vs, r, _ => by rw [RelDs] at r; rw [r]; rfl
  | d :: ds, vs, r, h => by
    rw [RelDs] at r
    obtain ⟨v, w, rfl, r1, r2⟩ := r
    rw [List.all_cons, Bool.and_eq_true] at h
    rw [List.map_cons, List.map_cons, ← blOf_v r2 h.2]
    cases d with
    | bl b => rw [r1.bl_inv]; rfl
    | _ => simp [isBl] at h
theorem bi_all (hK : g.K = X.K) (hc : X.calm = true) : BiS X g (.builtin "all") (opBi .all) := by
  intro pins s σ H xs us Q I r h
  obtain ⟨ι, S, ds, rs, rd, h⟩ := h
  obtain ⟨x, rfl, h⟩ := h.one
  obtain ⟨v, rfl, rv⟩ := rd.one
  change OutD g ι S H (bAll S x) Q at h
  unfold bAll at h
  cases e1 : lstOf S x with
  | none => rw [e1] at h; exact h.elim
  | some es =>
    obtain ⟨a, vs, rfl, q, sq⟩ := lstOf_v rs rv e1
    rw [e1, Option.bind_some] at h
    unfold allB at h
    split at h
    · rename_i b e2
      split at e2
      · rename_i hb
        simp only [Option.some.injEq] at e2
        rw [blOf_v q hb] at sq
        refine cr_all hc pins s σ H _ us Q I r ⟨a, es.map blOf, rfl, hK ▸ sq, ?_⟩
        have : (es.map blOf).all id = b := by rw [← e2, List.all_map]; rfl
        rw [this]; exact OutD.bl h rs
      · cases e2
    · exact h.elim
theorem bi_any (hK : g.K = X.K) (hc : X.calm = true) : BiS X g (.builtin "any") (opBi .any) := by
  intro pins s σ H xs us Q I r h
  obtain ⟨ι, S, ds, rs, rd, h⟩ := h
  obtain ⟨x, rfl, h⟩ := h.one
  obtain ⟨v, rfl, rv⟩ := rd.one
  change OutD g ι S H (bAny S x) Q at h
  unfold bAny at h
  cases e1 : lstOf S x with
  | none => rw [e1] at h; exact h.elim
  | some es =>
    obtain ⟨a, vs, rfl, q, sq⟩ := lstOf_v rs rv e1
    rw [e1, Option.bind_some] at h
    unfold anyB at h
    split at h
    · rename_i b e2
      split at e2
      · rename_i hb
        simp only [Option.some.injEq] at e2
        rw [blOf_v q hb] at sq
        refine cr_any hc pins s σ H _ us Q I r ⟨a, es.map blOf, rfl, hK ▸ sq, ?_⟩
        have : (es.map blOf).any id = b := by rw [← e2, List.any_map]; rfl
        rw [this]; exact OutD.bl h rs
      · cases e2
    · exact h.elim

/-! ### isinstance -/
def dtV (g : G) : DT → Value
  | .nt => .type "NoneType" | .bool => .type "bool" | .int => .type "int" | .str => .type "str" | .tup => .type "tuple" | .lst => .type "list" | .dct => .type "dict"
  | .own c => .ref (g.cad c)
def biN : Nat → String
  | 0 => "ValueError" | 1 => "LookupError" | 2 => "IndexError" | _ => "KeyError"
def tyV (g : G) : Ty → V
  | .tstr => .ty "str" | .tint => .ty "int" | .tbool => .ty "bool" | .tlist => .ty "list" | .ttuple => .ty "tuple" | .tdict => .ty "dict"
  | .tcls c => .ref (g.cad c) | .tbi k => .ty (biN k)
def tyU (g : G) : Ty → Value
  | .tstr => .type "str" | .tint => .type "int" | .tbool => .type "bool" | .tlist => .type "list" | .ttuple => .type "tuple" | .tdict => .type "dict"
  | .tcls c => .ref (g.cad c) | .tbi k => .type (biN k)
theorem tyV_cls (t : Ty) : ClsV (tyV g t) (tyU g t) := by cases t <;> constructor
/-- what is known of the class of an instance, for isinstance -/
structure ClsI (K : PySem.W.Frag) (C : Addr) : Prop where
  cl : Cls K C
  ha : PySem.W.findIn K (.ref C) "__class__" = some (some (.builtin "object.__class__"))
  hn : PySem.W.specialIn K (.builtin "object.__class__") "__get__" = some (some (.builtin "getset_descriptor.__get__"))
  htk : PySem.W.takesIn K (.builtin "object.__class__") = some true
  hm : PySem.W.mroIn K C (.type "object") = some true
/-- the types of the program's values -/
def TyOk (g : G) (P : Prog) (t : DT) (y : Ty) : Prop := PySem.W.kitOne g.K (dtV g t) (tyU g y) = some (isDT P t y)
theorem tyX_of {P : Prog} {ι : Nat → Addr} {S : St} {H : Hp} {x : D} {v : V} {t : DT} (hi : ∀ c, t = .own c → ClsI g.K (g.cad c)) (rs : RelS g ι S H) (rv : RelD g ι S.n H x v) (h : dty P S x = some t) : TyX g.K H v (dtV g t) := by
  unfold dty at h
  split at h
  · simp only [Option.some.injEq] at h; subst h; rw [rv.non_inv]; exact .base .non
  · simp only [Option.some.injEq] at h; subst h; rw [rv.bl_inv]; exact .base (.bl _)
  · simp only [Option.some.injEq] at h; subst h; rw [rv.int_inv]; exact .base (.int _)
  · simp only [Option.some.injEq] at h; subst h; rw [rv.str_inv]; exact .base (.str _)
  · simp only [Option.some.injEq] at h; subst h
    obtain ⟨a, vs, rfl, tt, q⟩ := rv.tup_inv
    rcases tt with tt | ⟨o, its, n, e, c, _⟩
    · exact .base (.tup tt)
    · exact .kTuple e c
  · rename_i a
    obtain ⟨_, rfl⟩ := rv.ref_inv
    split at h
    · rename_i lk ds e1
      simp only [Option.some.injEq] at h; subst h
      obtain ⟨vs, q, r2⟩ := rs.obj _ _ e1
      cases lk with
      | false => exact .base (.lst (by simpa using r2))
      | true =>
        obtain ⟨o, r2⟩ := (by simpa using r2 : ∃ o, H (ι a) = some (HO.frz o (.lst vs)))
        exact .base (.frz r2)
    · rename_i e1
      exact (rs.obj _ _ e1).elim
    · rename_i c fs e1
      split at h
      · simp only [Option.some.injEq] at h; subst h
        obtain ⟨dx, gs, e2, _, _⟩ := rs.obj _ _ e1
        have k := hi c rfl
        exact .base (.ins e2 k.cl k.ha k.hn k.htk k.hm)
      · cases h
    · cases h
  · cases h
/-- isinstance(e, T) -/
theorem snd_isi1 {p p2 : Pos} {e c : Expr} {t : E} {y : Ty} (hK : g.K = X.K) (hg : Gl X "isinstance") (hm : X.mg "isinstance" = none) (hs : notStar e = true) (hs2 : notStar c = true) (he : PE X e (rdE g C t)) (hc : PE X c (tC (tyV g y)))
    (hi : ∀ c, C.P.cl c ≠ none → ClsI g.K (g.cad c)) (hty : ∀ dt : DT, (∀ c, dt = .own c → C.P.cl c ≠ none) → TyOk g C.P dt y) :
    PE X (.Call (.Name "isinstance" p) [e, c] [] pos) (rdE g C (.isi t [y])) := by
  refine (pe_callB (pos := pos) (p := p) call_isi hg hm PyProof.Rows.boot_isinstance (pa_cons he (pa_cons hc pa_nil (starEach_ne hs2 [] X.env)) (starEach_ne hs [c] X.env)) (by decide) (by decide) (starEach_ne hs [c] X.env) (anyStar_no (by unfold noStars; simp [hs2]) pos X.env)).weak fun σ H Q ⟨ι, ρ, S, r, re, q⟩ => ?_
  rw [evE] at q
  obtain ⟨d, S1, e1, q⟩ := q.bnd
  refine rdE_of r re e1 fun ι1 v H1 p1 re1 r1 => ?_
  have q := q.post p1
  split at q
  · rename_i dt e2
    have hown : ∀ c, dt = .own c → C.P.cl c ≠ none := fun c ec => by
      subst ec
      unfold dty at e2
      split at e2 <;> try (cases e2; done)
      split at e2 <;> try (cases e2; done)
      split at e2
      · rename_i e3
        cases e2
        intro z
        rw [z] at e3
        cases e3
      · cases e2
    refine ⟨v, _, dtV g dt, tyU g y, isDT C.P dt y, rfl, tyV_cls y, hK ▸ tyX_of (fun c ec => hi c (hown c ec)) p1.rel r1 e2, hK ▸ hty dt hown, ?_⟩
    have := OutD.bl q p1.rel
    simpa using this
  · exact q.elim
end
end Lm

/-! Soundness: methods of built-in types, calls of defs. -/
namespace Lm
open PySem PySem.Spec PyProof.Rows L2

def notSuper : Expr → Bool
  | .Call (.Name id _) [] [] _ => id != "super"
  | _ => true
theorem attrBase_ne {o : Expr} (h : notSuper o = true) (f : Str) (env : PySem.Env) (w : Sem Value) : attributeBase o f env w = w := by
  unfold attributeBase
  split
  · rename_i id _ _
    have h2 : (id != "super") = true := h
    rw [if_pos (by rw [h2]; rfl)]
  · rfl

section
variable {X : Cx} {g : G} {C : Cn} {pos : Pos}
/-- o.m(e, ..), m a method of the built-in type T -/
def tRecv (m : Bm) : String := match m with
  | .append => "list" | .pop0 => "list" | .pop1 => "list" | .index => "list" | .insert => "list" | .reverse => "list"
  | .join => "str" | .split => "str" | .partition => "str" | .find => "str" | .upper => "str"
theorem recv_ty (hK : g.K = X.K) {ι : Nat → Addr} {S : St} {H : Hp} {m : Bm} {d : D} {v : V} (rs : RelS g ι S H) (rv : RelD g ι S.n H d v) (h : isRecv m d S = true) : L2.tyV X.K (tRecv m) v H := by
  have hl : ∀ a, d = .ref a → isL S a = true → L2.tyV X.K "list" v H := fun a e hh => by
    subst e
    unfold isL at hh
    split at hh
    · rename_i e1
      obtain ⟨_, rfl⟩ := rv.ref_inv
      obtain ⟨vs, q, sq, _⟩ := rs.lst e1
      exact .inl ⟨rfl, vs, hK ▸ sq⟩
    · cases hh
  have hs : ∀ a, d = .str a → L2.tyV X.K "str" v H := fun a e => by
    subst e
    rw [rv.str_inv]
    rfl
  cases m <;> (simp only [isRecv] at h; split at h <;> first | exact hl _ rfl h | exact hs _ rfl | cases h)
theorem snd_bm {name : Str} {apos : Pos} {o e : Expr} {es : List Expr} {to : E} {ts : Es} {m : Bm} {T id : String} (hT : tRecv m = T) (hK : g.K = X.K) (pa : PlainAttrs T) (slot : Slot T name id) (hty : typeOf (.builtin id) = pure (.type "method_descriptor"))
    (hm : MtR X id (fun x xs H Q => ∃ ι S d ds, RelS g ι S H ∧ RelD g ι S.n H d x ∧ RelDs g ι S.n H ds xs ∧ OutD g ι S H (opBm m d ds S) Q))
    (hb : notSuper o = true) (hl : (apos.endLine == pos.line) = true) (hs : noStars (e :: es) = true) (hlen : (e :: es).length < 29) (ho : PE X o (rdE g C to)) (ha : PA X (e :: es) (rdEs g C ts)) : PE X (.Call (.Attribute o name apos) (e :: es) [] pos) (rdE g C (.bm m to ts)) := by
  have hs' := hs
  unfold noStars at hs'
  rw [List.all_cons, Bool.and_eq_true] at hs'
  have hall : ((backTo pos (starEach (e :: es) X.env)).all (fun x => !x.1)) = true := by
    have := anyStar_no hs pos X.env
    rw [List.all_eq_true]
    intro x hx
    have h2 : x.1 = false := by
      cases q : x.1 with
      | false => rfl
      | true =>
        have : (backTo pos (starEach (e :: es) X.env)).any (·.1) = true := List.any_eq_true.mpr ⟨x, hx, q⟩
        rw [anyStar_no hs pos X.env] at this
        cases this
    rw [h2]; rfl
  refine (pe_bm (cpos := pos) pa slot hty hm ho ha (attrBase_ne hb _ _ _) ?_ hl (starEach_ne hs'.1 es X.env) (anyStar_no hs'.2 pos X.env)).weak fun σ H Q ⟨ι, ρ, S, r, re, q⟩ => ?_
  · rw [hall]
    simp [backToKw, keywordEach]
    simp at hlen
    omega
  rw [evE] at q
  obtain ⟨d, S1, e1, q⟩ := q.bnd
  split at q
  · rename_i hr
    obtain ⟨ds, S2, e2, q⟩ := q.bnd
    refine rdE_of r re e1 fun ι1 v H1 p1 re1 r1 => ⟨hT ▸ recv_ty hK p1.rel r1 hr, ?_⟩
    exact rdEs_of p1.rel re1 e2 fun ι2 vs H2 p2 re2 r2 => ⟨ι2, S2, d, ds, p2.rel, p2.d r1, r2, q.post (p1.trans p2)⟩
  · exact q.elim
theorem OutD.setL {ι : Nat → Addr} {S : St} {H : Hp} {Q : VK} {a : Nat} {d : D} {es fs : List D} {ws vs : List V} {v : V} (h : OutD g ι S H (.ok d (S.set a (.lst false fs))) Q) (rs : RelS g ι S H) (e : S.get a = some (.lst false es)) (r0 : H (ι a) = some (.lst ws)) (r : RelDs g ι S.n H fs vs) (rd : RelD g ι S.n H d v) :
    Q v (upd H (ι a) (.lst vs)) := by
  have p := rs.write (o := .lst false fs) (w := .lst vs) e r0 (fun xs z => nomatch z) (fun b z => nomatch z) ⟨vs, RelDs.mono (Nat.le_refl _) (fun _ _ => rfl) (keep_mut r0 (fun xs z => nomatch z)) _ _ r, by simp [upd_same]⟩
  exact h ι v _ p (p.d rd)
theorem mt_app : MtR X "list.append" (fun x xs H Q => ∃ ι S d ds, RelS g ι S H ∧ RelD g ι S.n H d x ∧ RelDs g ι S.n H ds xs ∧ OutD g ι S H (opBm .append d ds S) Q) := by
  intro pins s σ H x xs v us Q I rx rv h
  obtain ⟨ι, S, d, ds, rs, r1, r2, h⟩ := h
  obtain ⟨y, rfl, h⟩ := h.one
  obtain ⟨w, rfl, rw2⟩ := r2.one
  change OutD g ι S H (mAppend S d y) Q at h
  unfold mAppend at h
  split at h
  · rename_i a _
    obtain ⟨_, rfl⟩ := r1.ref_inv
    split at h
    · rename_i es e1
      split at h
      · rename_i hl
        obtain ⟨vs, q, _, f⟩ := rs.lst e1
        refine mt_append pins s σ H _ _ v us Q I rx rv ⟨ι a, vs, w, rfl, rfl, f rfl, by rw [← q.length, ← lim_eq]; exact hl, ?_⟩
        exact OutD.setL h rs e1 (f rfl) (q.append (RelDs.cons rw2 RelDs.nil)) (by rw [RelD])
      · exact h.elim
    · exact h.elim
  · exact h.elim
theorem txts_v {ι : Nat → Addr} {n : Nat} {H : Hp} : ∀ {ds : List D} {vs : List V} {ys : List Txt}, RelDs g ι n H ds vs → txts ds = some ys → vs = (ys.map toS).map V.str
  | [], vs, ys, r, h => by
    rw [RelDs] at r
    simp only [txts, Option.some.injEq] at h
    subst h; rw [r]; rfl
  | d :: ds, vs, ys, r, h => by
    rw [RelDs] at r
    obtain ⟨v, w, rfl, r1, r2⟩ := r
    simp only [txts] at h
    split at h
    · rename_i z
      cases e : txts ds with
      | none => rw [e] at h; cases h
      | some zs =>
        rw [e] at h
        simp only [Option.map_some, Option.some.injEq] at h
        subst h
        rw [r1.str_inv, txts_v r2 e]; rfl
    · cases h
theorem joinT_fold (a : Txt) : ∀ (ys : List Txt) (z : Txt), (ys.foldl (fun acc p => acc ++ a ++ p) z) = joinT a (z :: ys)
  | [], z => rfl
  | y :: r, z => by
    rw [List.foldl_cons, joinT_fold a r (z ++ a ++ y)]
    cases r with
    | nil => simp [joinT]
    | cons w r => simp [joinT]
theorem join_toS (a : Txt) : ∀ ys : List Txt, Txt.join (toS a) (ys.map toS) = toS (joinT a ys) := by
  intro ys
  unfold Txt.join Builtin.Str.glued
  cases ys with
  | nil => rfl
  | cons y r =>
    rw [← joinT_fold]
    simp only [List.map_cons, List.drop_one, List.tail_cons, List.headD_cons]
    have key : ∀ (r : List Txt) (z : Txt), ((r.map toS).foldl (fun acc p => acc ++ (toS a).cps ++ p.cps) (toS z).cps) = (toS (r.foldl (fun acc p => acc ++ a ++ p) z)).cps := by
      intro r
      induction r with
      | nil => intro z; rfl
      | cons w r ih =>
        intro z
        rw [List.map_cons, List.foldl_cons, List.foldl_cons, ← ih]
        congr 1
        simp [toS]
    rw [key r y]
theorem mt_joi (hK : g.K = X.K) : MtR X "str.join" (fun x xs H Q => ∃ ι S d ds, RelS g ι S H ∧ RelD g ι S.n H d x ∧ RelDs g ι S.n H ds xs ∧ OutD g ι S H (opBm .join d ds S) Q) := by
  intro pins s σ H x xs v us Q I rx rv h
  obtain ⟨ι, S, d, ds, rs, r1, r2, h⟩ := h
  obtain ⟨y, rfl, h⟩ := h.one
  obtain ⟨w, rfl, rw2⟩ := r2.one
  change OutD g ι S H (mJoin S d y) Q at h
  unfold mJoin at h
  split at h
  · rename_i t _
    rw [r1.str_inv] at rx
    split at h
    · rename_i ys e1
      split at h
      · rename_i hl
        cases e2 : asLst y S with
        | none => rw [e2] at e1; cases e1
        | some es =>
          rw [e2, Option.bind_some] at e1
          obtain ⟨p, vs, rfl, q, sq⟩ := asLst_or rs rw2 e2
          rw [txts_v q e1] at sq
          refine mt_join pins s σ H _ _ v us Q I rx rv ⟨toS t, p, ys.map toS, rfl, rfl, hK ▸ sq, ?_, ?_⟩
          · rw [List.map_map, List.length_map, toS_len]
            have : (ys.map ((fun x => x.length) ∘ toS)) = ys.map List.length := List.map_congr_left fun z _ => toS_len z
            rw [this]; exact hl
          · rw [join_toS]; exact OutD.str h rs
      · exact h.elim
    · exact h.elim
  · exact h.elim

/-! ### calls of defs -/
/-- the promise of a def: what the evaluator answers -/
def spF (g : G) (n : Nat) (call : List D → St → R D) : Sp := fun vs H Q _ => ∃ ι S ds, RelS g ι S H ∧ RelDs g ι S.n H ds vs ∧ ds.length = n ∧ OutD g ι S H (call ds S) Q
structure FnF (X : Cx) (g : G) (C : Cn) (k : Nat) (f : Nat) (x : Str) : Prop where
  ex : ∃ (fa : Addr) (fd : FuncData) (ps : List Str), X.mg x = some (.ref fa) ∧ PySem.W.keepIn X.K (.ref fa) = true ∧ Binds X.K fd ps [] ∧ (∃ F, C.P.fn f = some F ∧ F.npar = ps.length) ∧ FnOk X.prog X.w X.K X.mg X.base CX0 k fa fd ps (spF g ps.length (C.call f))
theorem snd_cal {x : Str} {p : Pos} {e : Expr} {es : List Expr} {ts : Es} {f k : Nat} (F : FnF X g C k f x) (hr : Room k X.A) (hg : Gl X x) (hd : (x == ("__debug__" : Str)) = false) (hs : noStars (e :: es) = true) (ha : PA X (e :: es) (rdEs g C ts))
    : PE X (.Call (.Name x p) (e :: es) [] pos) (rdE g C (.cal f ts)) := by
  have hs' := hs
  unfold noStars at hs'
  rw [List.all_cons, Bool.and_eq_true] at hs'
  obtain ⟨fa, fd, ps, hm, hk, hb, ⟨F0, hF0, hnp⟩, ok⟩ := F.ex
  refine (pe_call (pos := pos) (p := p) ok hr hg hm hk hb .nil pass0 ha hd (starEach_ne hs'.1 es X.env) (anyStar_no hs'.2 pos X.env)).weak fun σ H Q ⟨ι, ρ, S, r, re, q⟩ => ?_
  rw [evE] at q
  obtain ⟨ds, S1, e1, q⟩ := q.bnd
  refine rdEs_of r re e1 fun ι1 vs H1 p1 re1 r1 => ?_
  unfold callD at q
  rw [hF0] at q
  simp only at q
  split at q
  · rename_i hl
    rw [List.append_nil]
    exact ⟨ι1, S1, ds, p1.rel, r1, hnp ▸ hl, q.post p1⟩
  · exact q.elim
theorem snd_cal0 {x : Str} {p : Pos} {f k : Nat} (F : FnF X g C k f x) (hr : Room k X.A) (hg : Gl X x) (hd : (x == ("__debug__" : Str)) = false)
    : PE X (.Call (.Name x p) [] [] pos) (rdE g C (.cal f .nil)) := by
  obtain ⟨fa, fd, ps, hm, hk, hb, ⟨F0, hF0, hnp⟩, ok⟩ := F.ex
  refine (pe_call0 (pos := pos) (p := p) ok hr hg hm hk hb .nil pass0 hd).weak fun σ H Q ⟨ι, ρ, S, r, re, q⟩ => ?_
  rw [evE] at q
  obtain ⟨ds, S1, e1, q⟩ := q.bnd
  rw [evEs] at e1
  cases e1
  unfold callD at q
  rw [hF0] at q
  simp only at q
  split at q
  · rename_i hl
    exact ⟨ι, S, [], r, by rw [List.append_nil]; exact RelDs.nil, hnp ▸ hl, q⟩
  · exact q.elim
end
end Lm

/-! Soundness: what is walked, targets, comprehensions. -/
namespace Lm
open PySem PySem.Spec PyProof.Rows L2

def ItOk (g : G) (ι0 : Nat → Addr) (n0 : Nat) (H0 : Hp) (J : L2.It) (items : List D) (src : List (Nat × O)) : Prop :=
  ∀ ι S H, n0 ≤ S.n → (∀ i, i < n0 → ι i = ι0 i) → Keep H0 H → RelS g ι S H → stands S src = true →
    (∀ i, i < items.length → J.go i H) ∧ J.stop items.length H ∧ ∀ i x H' d, items[i]? = some d → J.yld i H x H' → Post g ι S H ι S H' ∧ RelD g ι S.n H' d x
def OutI (g : G) (ι : Nat → Addr) (S : St) (H : Hp) (r : R (List D × List (Nat × O))) (W : L2.It → Hp → Prop) : Prop :=
  match r with
  | .ok p S' => ∀ ι' H' J, Post g ι S H ι' S' H' → ItOk g ι' S'.n H' J p.1 p.2 → W J H'
  | _ => False
theorem OutI.bnd {g : G} {ι : Nat → Addr} {S : St} {H : Hp} {W : L2.It → Hp → Prop} {α : Type} {r : R α} {f : α → St → R (List D × List (Nat × O))} (h : OutI g ι S H (r.bnd f) W) : ∃ a S1, r = .ok a S1 ∧ OutI g ι S H (f a S1) W :=
  bnd_ok (g := fun r => OutI g ι S H r W) (fun h => h) (fun _ _ h => h) h
def rdI (g : G) (C : Cn) (t : Lm.It) : TI := fun σ H W => ∃ ι ρ S, RelS g ι S H ∧ RelE g ι S.n H ρ σ ∧ OutI g ι S H (evI C t ρ S) W
theorem _root_.L2.PI.weak {X : Cx} {tg e : Expr} {t t' : TI} (h : PI X tg e t) (w : ∀ σ H Q, t' σ H Q → t σ H Q) : PI X tg e t' := ⟨fun pins s σ H Q I q => h.run pins s σ H Q I (w σ H Q q)⟩

theorem stands_at {S : St} {l : List (Nat × O)} (h : stands S l = true) {a : Nat} {o : O} (hm : (a, o) ∈ l) : S.get a = some o := by
  unfold stands at h
  rw [List.all_eq_true] at h
  exact of_decide_eq_true (h _ hm)
section
variable {X : Cx} {g : G} {C : Cn} {pos : Pos} {tg : Expr}
theorem it_list (hK : g.K = X.K) {ι0 : Nat → Addr} {n0 : Nat} {H0 : Hp} {a : Nat} {lk : Bool} {ds : List D} (ha : a < n0) : ItOk g ι0 n0 H0 (Itl X.K (ι0 a)) ds [(a, .lst lk ds)] := by
  intro ι S H hn hi hk rs st
  have e := stands_at st (List.mem_cons_self)
  obtain ⟨vs, q, sq, _⟩ := rs.lst e
  rw [hi a ha, hK] at sq
  refine ⟨fun i h => ?_, ⟨vs, sq, by rw [q.length]; exact Nat.le_refl _⟩, fun i x H' d hd hy => ?_⟩
  · obtain ⟨v, e1, _⟩ := q.get (List.getElem?_eq_getElem h)
    exact ⟨vs, v, sq, e1⟩
  · obtain ⟨rfl, hy⟩ := hy
    obtain ⟨v, e1, r1⟩ := q.get hd
    have : x = v := Option.some.inj ((hy vs sq).symm.trans e1)
    rw [this]
    exact ⟨Post.refl rs, r1⟩
theorem it_tup (hK : g.K = X.K) {ι0 : Nat → Addr} {n0 : Nat} {H0 : Hp} {a : Addr} {vs : List V} {ds : List D} {src : List (Nat × O)} (t : TupAt g.K H0 a vs) (r : RelDs g ι0 n0 H0 ds vs) : ItOk g ι0 n0 H0 (Itt X.K a) ds src := by
  intro ι S H hn hi hk rs st
  have sq : SqT X.K H a vs := hK ▸ (t.keep hk).sq
  have q : RelDs g ι S.n H ds vs := RelDs.mono hn hi hk _ _ r
  refine ⟨fun i h => ?_, ⟨vs, sq, by rw [q.length]; exact Nat.le_refl _⟩, fun i x H' d hd hy => ?_⟩
  · obtain ⟨v, e1, _⟩ := q.get (List.getElem?_eq_getElem h)
    exact ⟨vs, v, sq, e1⟩
  · obtain ⟨rfl, hy⟩ := hy
    obtain ⟨v, e1, r1⟩ := q.get hd
    have : x = v := Option.some.inj ((hy vs sq).symm.trans e1)
    rw [this]
    exact ⟨Post.refl rs, r1⟩
theorem it_str {ι0 : Nat → Addr} {n0 : Nat} {H0 : Hp} {s : Txt} {src : List (Nat × O)} : ItOk g ι0 n0 H0 (Its (toS s)) (s.map fun c => .str [c]) src := by
  intro ι S H hn hi hk rs st
  refine ⟨fun i h => ?_, ?_, fun i x H' d hd hy => ?_⟩
  · show i < (toS s).cps.size
    simpa [toS] using h
  · show (toS s).cps.size ≤ _
    simp [toS]
  · obtain ⟨rfl, c, e1, rfl⟩ := hy
    refine ⟨Post.refl rs, ?_⟩
    rw [List.getElem?_map] at hd
    have e2 : s[i]? = some c := by simpa [toS] using e1
    rw [e2] at hd
    simp only [Option.map_some, Option.some.injEq] at hd
    subst hd
    rw [RelD]
    rfl
theorem it_rng {ι0 : Nat → Addr} {n0 : Nat} {H0 : Hp} {lo : Int} {n : Nat} {src : List (Nat × O)} : ItOk g ι0 n0 H0 (Itr lo n) ((List.range n).map fun (k : Nat) => D.int (lo + (k : Int))) src := by
  intro ι S H hn hi hk rs st
  refine ⟨fun i h => by show i < n; simpa using h, by show n ≤ _; simp, fun i x H' d hd hy => ?_⟩
  obtain ⟨rfl, rfl⟩ := hy
  refine ⟨Post.refl rs, ?_⟩
  rw [List.getElem?_map] at hd
  by_cases hl : i < n
  · rw [List.getElem?_range hl] at hd
    simp only [Option.map_some, Option.some.injEq] at hd
    subst hd
    rw [RelD]
  · rw [List.getElem?_eq_none (by simpa using hl)] at hd
    cases hd
/-- a value that is walked -/
theorem snd_val {e : Expr} {t : E} (hK : g.K = X.K) (h : PE X e (rdE g C t)) : PI X tg e (rdI g C (.val t)) := by
  refine ⟨fun pins s σ H W I ⟨ι, ρ, S, r, re, q⟩ => ?_⟩
  rw [evI] at q
  obtain ⟨d, S1, e1, q⟩ := q.bnd
  · cases d with
    | str z =>
      refine (pi_str h).run pins s σ H W I (rdE_of r re e1 fun ι1 v H1 p1 re1 r1 => ⟨toS z, r1.str_inv, q ι1 H1 _ p1 it_str⟩)
    | tup ds =>
      refine (pi_tup h).run pins s σ H W I (rdE_of r re e1 fun ι1 v H1 p1 re1 r1 => ?_)
      obtain ⟨a, vs, rfl, tt, rr⟩ := r1.tup_inv
      exact ⟨a, rfl, ⟨vs, hK ▸ tt.sq⟩, q ι1 H1 _ p1 (it_tup hK tt rr)⟩
    | ref a =>
      split at q
      · rename_i p e2
        simp only [itemsOf] at e2
        split at e2
        · rename_i lk ds e3
          simp only [Option.some.injEq] at e2
          subst e2
          refine (pi_list h).run pins s σ H W I (rdE_of r re e1 fun ι1 v H1 p1 re1 r1 => ?_)
          obtain ⟨hl, rfl⟩ := r1.ref_inv
          obtain ⟨vs, rr, sq, _⟩ := p1.rel.lst e3
          exact ⟨ι1 a, rfl, ⟨vs, hK ▸ sq⟩, q ι1 H1 _ p1 (it_list hK hl)⟩
        · cases e2
      · exact q.elim
    | _ => exact q.elim
theorem snd_rng1 {a : Expr} {t : E} {p : Pos} (hg : Gl X "range") (hm : X.mg "range" = none) (hs : notStar a = true) (h : PE X a (rdE g C t)) : PI X tg (.Call (.Name "range" p) [a] [] pos) (rdI g C (.rng1 t)) :=
  (pi_range1 (pos := pos) (p := p) hg hm (pa_cons h pa_nil (starEach_ne hs [] X.env)) (starEach_ne hs [] X.env)).weak fun σ H W ⟨ι, ρ, S, r, re, q⟩ => by
    rw [evI] at q
    obtain ⟨d, S1, e1, q⟩ := q.bnd
    · refine rdE_of r re e1 fun ι1 v H1 p1 re1 r1 => ?_
      cases d with
      | int j =>
        simp only at q
        split at q
        · rename_i hl
          rw [r1.int_inv]
          have hi := it_rng (g := g) (ι0 := ι1) (n0 := S1.n) (H0 := H1) (lo := 0) (n := j.toNat) (src := [])
          simp only [Int.zero_add] at hi
          exact ⟨j, rfl, hl.1, hl.2, q ι1 H1 _ p1 hi⟩
        · exact q.elim
      | _ => exact q.elim
theorem snd_rng2 {a b : Expr} {t u : E} {p : Pos} (hg : Gl X "range") (hm : X.mg "range" = none) (hs : notStar a = true) (hs2 : notStar b = true) (h : PE X a (rdE g C t)) (h2 : PE X b (rdE g C u)) : PI X tg (.Call (.Name "range" p) [a, b] [] pos) (rdI g C (.rng2 t u)) :=
  (pi_range2 (pos := pos) (p := p) hg hm (pa_cons h (pa_cons h2 pa_nil (starEach_ne hs2 [] X.env)) (starEach_ne hs [b] X.env)) (by rw [starEach_ne hs, starEach_ne hs2]; rfl) (starEach_ne hs2 [] X.env)).weak fun σ H W ⟨ι, ρ, S, r, re, q⟩ => by
    rw [evI] at q
    obtain ⟨d, S1, e1, q⟩ := q.bnd
    · obtain ⟨e, S2, e2, q⟩ := q.bnd
      · refine rdE_of r re e1 fun ι1 v H1 p1 re1 r1 => rdE_of p1.rel re1 e2 fun ι2 w H2 p2 re2 r2 => ?_
        cases d with
        | int i =>
          cases e with
          | int j =>
            simp only at q
            split at q
            · rename_i hl
              rw [r1.int_inv, r2.int_inv]
              exact ⟨i, j, rfl, ⟨hl.1.1, hl.1.2, hl.2.1, hl.2.2⟩, q ι2 H2 _ (p1.trans p2) it_rng⟩
            · exact q.elim
          | _ => exact q.elim
        | _ => exact q.elim

/-! ### zip -/
theorem pair_rel {ι : Nat → Addr} {S : St} {H : Hp} {d e : D} {x y : V} {T : Addr} (rs : RelS g ι S H) (hT : H T = none) (r1 : RelD g ι S.n H d x) (r2 : RelD g ι S.n H e y) : Post g ι S H ι S (upd H T (.tup [x, y])) ∧ RelD g ι S.n (upd H T (.tup [x, y])) (.tup [d, e]) (.ref T) := by
  have p := rs.fresh (u := .tup [x, y]) hT
  refine ⟨p, ?_⟩
  rw [RelD]
  exact ⟨T, _, rfl, .inl upd_same, RelDs.cons (p.d r1) (RelDs.cons (p.d r2) RelDs.nil)⟩
theorem it_zipL (hK : g.K = X.K) {ι0 : Nat → Addr} {n0 : Nat} {H0 : Hp} {a b : Nat} {lk lk2 : Bool} {ds es : List D} (ha : a < n0) (hb : b < n0) : ItOk g ι0 n0 H0 (Itz X.K (ι0 a) (ι0 b)) (List.zipWith (fun u v => .tup [u, v]) ds es) [(a, .lst lk ds), (b, .lst lk2 es)] := by
  intro ι S H hn hi hk rs st
  have e1 := stands_at st (List.mem_cons_self)
  have e2 := stands_at st (List.mem_cons_of_mem _ (List.mem_cons_self))
  obtain ⟨vs, q, sq, _⟩ := rs.lst e1
  obtain ⟨ws, q2, sq2, _⟩ := rs.lst e2
  rw [hi a ha, hK] at sq
  rw [hi b hb, hK] at sq2
  refine ⟨fun i h => ?_, ⟨vs, ws, sq, sq2, ?_⟩, fun i x H' d hd hy => ?_⟩
  · rw [List.length_zipWith] at h
    obtain ⟨v, f1, _⟩ := q.get (List.getElem?_eq_getElem (by omega : i < ds.length))
    obtain ⟨w, f2, _⟩ := q2.get (List.getElem?_eq_getElem (by omega : i < es.length))
    exact ⟨vs, ws, v, w, sq, sq2, f1, f2⟩
  · rw [List.length_zipWith, q.length, q2.length]
    omega
  · obtain ⟨T, x1, y1, rfl, hT, rfl, f1, f2⟩ := hy
    rw [List.getElem?_zipWith] at hd
    cases g1 : ds[i]? with
    | none => rw [g1] at hd; cases hd
    | some d1 =>
      cases g2 : es[i]? with
      | none => rw [g1, g2] at hd; cases hd
      | some d2 =>
        rw [g1, g2] at hd
        cases hd
        obtain ⟨v, h1, r1⟩ := q.get g1
        obtain ⟨w, h2, r2⟩ := q2.get g2
        have ex : x1 = v := Option.some.inj ((f1 vs sq).symm.trans h1)
        have ey : y1 = w := Option.some.inj ((f2 ws sq2).symm.trans h2)
        subst ex; subst ey
        exact pair_rel rs hT r1 r2
theorem it_zipT (hK : g.K = X.K) {ι0 : Nat → Addr} {n0 : Nat} {H0 : Hp} {a b : Addr} {vs ws : List V} {ds es : List D} {src : List (Nat × O)} (t : TupAt g.K H0 a vs) (t2 : TupAt g.K H0 b ws) (q : RelDs g ι0 n0 H0 ds vs) (q2 : RelDs g ι0 n0 H0 es ws) :
    ItOk g ι0 n0 H0 (RZ.ItzT X.K a b) (List.zipWith (fun u v => .tup [u, v]) ds es) src := by
  intro ι S H hn hi hk rs st
  have sq : SqT X.K H a vs := hK ▸ (t.keep hk).sq
  have sq2 : SqT X.K H b ws := hK ▸ (t2.keep hk).sq
  have q : RelDs g ι S.n H ds vs := RelDs.mono hn hi hk _ _ q
  have q2 : RelDs g ι S.n H es ws := RelDs.mono hn hi hk _ _ q2
  refine ⟨fun i h => ?_, ⟨vs, ws, sq, sq2, ?_⟩, fun i x H' d hd hy => ?_⟩
  · rw [List.length_zipWith] at h
    obtain ⟨v, f1, _⟩ := q.get (List.getElem?_eq_getElem (by omega : i < ds.length))
    obtain ⟨w, f2, _⟩ := q2.get (List.getElem?_eq_getElem (by omega : i < es.length))
    exact ⟨vs, ws, v, w, sq, sq2, f1, f2⟩
  · rw [List.length_zipWith, q.length, q2.length]
    omega
  · obtain ⟨T, x1, y1, rfl, hT, rfl, f1, f2⟩ := hy
    rw [List.getElem?_zipWith] at hd
    cases g1 : ds[i]? with
    | none => rw [g1] at hd; cases hd
    | some d1 =>
      cases g2 : es[i]? with
      | none => rw [g1, g2] at hd; cases hd
      | some d2 =>
        rw [g1, g2] at hd
        cases hd
        obtain ⟨v, h1, r1⟩ := q.get g1
        obtain ⟨w, h2, r2⟩ := q2.get g2
        have ex : x1 = v := Option.some.inj ((f1 vs sq).symm.trans h1)
        have ey : y1 = w := Option.some.inj ((f2 ws sq2).symm.trans h2)
        subst ex; subst ey
        exact pair_rel rs hT r1 r2
theorem snd_zip {a b : Expr} {t u : E} {p tpos : Pos} {elts : List Expr} {kk : Nat} (hK : g.K = X.K) (hg : Gl X "zip") (hm : X.mg "zip" = none) (hs : notStar a = true) (hs2 : notStar b = true) (h : PE X a (rdE g C t)) (h2 : PE X b (rdE g C u)) :
    PI X (.Tuple elts kk tpos) (.Call (.Name "zip" p) [a, b] [] pos) (rdI g C (.zip t u)) :=
  (RZ.pi_zipA (pos := pos) (p := p) hg hm (pa_cons h (pa_cons h2 pa_nil (starEach_ne hs2 [] X.env)) (starEach_ne hs [b] X.env)) (starEach_ne hs [b] X.env) (anyStar_no (by unfold noStars; simp [hs2]) pos X.env)).weak fun σ H W ⟨ι, ρ, S, r, re, q⟩ => by
    rw [evI] at q
    obtain ⟨d, S1, e1, q⟩ := q.bnd
    · obtain ⟨e, S2, e2, q⟩ := q.bnd
      · refine rdE_of r re e1 fun ι1 v H1 p1 re1 r1 => rdE_of p1.rel re1 e2 fun ι2 w H2 p2 re2 r2 => ?_
        have r1 := p2.d r1
        cases d with
        | ref a =>
          cases e with
          | ref b =>
            obtain ⟨ha, rfl⟩ := r1.ref_inv
            obtain ⟨hb, rfl⟩ := r2.ref_inv
            split at q
            · rename_i pq e3
              simp only [zipItems] at e3
              split at e3
              · rename_i lk ds lk2 es e4 e5
                simp only [Option.some.injEq] at e3
                subst e3
                obtain ⟨vs, _, sq, _⟩ := p2.rel.lst e4
                obtain ⟨ws, _, sq2, _⟩ := p2.rel.lst e5
                exact ⟨ι2 a, ι2 b, vs, ws, rfl, .inl ⟨hK ▸ sq, hK ▸ sq2, q ι2 H2 _ (p1.trans p2) (it_zipL hK ha hb)⟩⟩
              · cases e3
            · exact q.elim
          | _ => exact q.elim
        | tup ds =>
          cases e with
          | tup es =>
            obtain ⟨a, vs, rfl, t1, q1⟩ := r1.tup_inv
            obtain ⟨b, ws, rfl, t2, q2⟩ := r2.tup_inv
            exact ⟨a, b, vs, ws, rfl, .inr ⟨hK ▸ t1.sq, hK ▸ t2.sq, q ι2 H2 _ (p1.trans p2) (it_zipT hK t1 t2 q1 q2)⟩⟩
          | _ => exact q.elim
        | _ => exact q.elim

/-! ### targets -/
/-- alike but at these slots -/
def Alike (vs : List Nat) (σ σ' : L2.St) : Prop := σ'.length = σ.length ∧ ∀ j : Nat, j ∉ vs → σ'[j]? = σ[j]?
theorem Alike.refl (vs : List Nat) (σ : L2.St) : Alike vs σ σ := ⟨rfl, fun _ _ => rfl⟩
theorem Alike.trans {vs ws : List Nat} {σ σ1 σ2 : L2.St} (a : Alike vs σ σ1) (b : Alike ws σ1 σ2) : Alike (vs ++ ws) σ σ2 :=
  ⟨b.1.trans a.1, fun j hj => (b.2 j fun z => hj (List.mem_append_right _ z)).trans (a.2 j fun z => hj (List.mem_append_left _ z))⟩
theorem wipe_get (σ : L2.St) : ∀ (vs : List Nat) (j : Nat), (L2.wipe σ vs)[j]? = if j ∈ vs then (if j < σ.length then some none else none) else σ[j]?
  | [], j => by simp [L2.wipe]
  | v :: vs, j => by
    rw [L2.wipe]
    by_cases hj : v = j
    · subst hj
      rw [if_pos List.mem_cons_self]
      by_cases hl : v < σ.length
      · rw [List.getElem?_set_self (by rw [wipe_length]; exact hl), if_pos hl]
      · rw [List.getElem?_eq_none (by rw [List.length_set, wipe_length]; omega), if_neg hl]
    · rw [List.getElem?_set_ne hj, wipe_get σ vs j]
      have : (j ∈ v :: vs) ↔ j ∈ vs := by
        rw [List.mem_cons]
        exact ⟨fun h => h.elim (fun e => absurd e.symm hj) id, .inr⟩
      by_cases hm : j ∈ vs
      · rw [if_pos hm, if_pos (this.mpr hm)]
      · rw [if_neg hm, if_neg fun z => hm (this.mp z)]
theorem Alike.wipe {vs own : List Nat} {σ σ' : L2.St} (a : Alike vs (L2.wipe σ own) σ') (hv : ∀ j ∈ vs, j ∈ own) : L2.wipe σ' own = L2.wipe σ own := by
  apply List.ext_getElem?
  intro j
  rw [wipe_get, wipe_get]
  have hl : σ'.length = σ.length := by rw [a.1, wipe_length]
  by_cases hj : j ∈ own
  · rw [if_pos hj, if_pos hj, hl]
  · rw [if_neg hj, if_neg hj, a.2 j fun z => hj (hv j z), wipe_get, if_neg hj]
def rdG (g : G) (t : Tg) : TG := fun v σ H Q => ∃ ι ρ S d ρ1, RelS g ι S H ∧ RelE g ι S.n H ρ σ ∧ RelD g ι S.n H d v ∧ asgT t d ρ = some ρ1 ∧ ∀ σ', RelE g ι S.n H ρ1 σ' → Alike (tslots t) σ σ' → Q σ' H
def rdGs (g : G) (t : Tgs) : TGs := fun vs σ H Q => ∃ ι ρ S ds ρ1, RelS g ι S H ∧ RelE g ι S.n H ρ σ ∧ RelDs g ι S.n H ds vs ∧ asgTs t ds ρ = some ρ1 ∧ ∀ σ', RelE g ι S.n H ρ1 σ' → Alike (tsslots t) σ σ' → Q σ' H
theorem _root_.L2.PG.weak {X : Cx} {e : Expr} {t t' : TG} (h : PG X e t) (w : ∀ v σ H Q, t' v σ H Q → t v σ H Q) : PG X e t' := ⟨fun pins s σ H v u Q I r q => h.run pins s σ H v u Q I r (w v σ H Q q)⟩
theorem _root_.L2.PGs.weak {X : Cx} {e : List Expr} {t t' : TGs} (h : PGs X e t) (w : ∀ v σ H Q, t' v σ H Q → t v σ H Q) : PGs X e t' := ⟨fun pins s σ H v u Q I r q => h.run pins s σ H v u Q I r (w v σ H Q q)⟩
theorem snd_gn {i : Nat} {x : Str} (hN : X.N.Nodup) (hi : X.N[i]? = some x) (hx : Loc X.env.scope x) (hf : X.fn x = true ∨ X.env.scope.names.lookup x = some .local) : PG X (.Name x pos) (rdG g (.n i)) :=
  (pg_name hN hi hx hf).weak fun v σ H Q ⟨ι, ρ, S, d, ρ1, rs, re, rd, e, q⟩ => by
    rw [asgT] at e
    simp only [Option.some.injEq] at e
    subst e
    refine q _ (re.set rd) ⟨by simp, fun j hj => ?_⟩
    rw [tslots] at hj
    rw [List.getElem?_set_ne (fun z => hj (by rw [z]; exact List.mem_singleton.mpr rfl))]
theorem snd_gs0 : PGs X [] (rdGs g .nil) := pgs_nil.weak fun v σ H Q ⟨ι, ρ, S, ds, ρ1, rs, re, rd, e, q⟩ => by
  rw [asgTs] at e
  split at e
  · rename_i hz
    simp only [Option.some.injEq] at e
    subst e
    have : ds = [] := by simpa using hz
    subst this
    rw [RelDs] at rd
    exact ⟨rd, q _ re (Alike.refl _ _)⟩
  · cases e
theorem snd_gs1 {e : Expr} {es : List Expr} {t : Tg} {ts : Tgs} (h : PG X e (rdG g t)) (h2 : PGs X es (rdGs g ts)) (hs : (assignEach (e :: es) X.env).map (·.2) = assign e X.env :: (assignEach es X.env).map (·.2)) : PGs X (e :: es) (rdGs g (.cons t ts)) :=
  (pgs_cons h h2 hs).weak fun v σ H Q ⟨ι, ρ, S, ds, ρ1, rs, re, rd, e, q⟩ => by
    cases ds with
    | nil => rw [asgTs] at e; cases e
    | cons d ds =>
      rw [asgTs] at e
      rw [RelDs] at rd
      obtain ⟨u, w, rfl, r1, r2⟩ := rd
      cases e1 : asgT t d ρ with
      | none => rw [e1] at e; cases e
      | some ρ2 =>
        rw [e1, Option.bind_some] at e
        exact ⟨u, w, rfl, ι, ρ, S, d, ρ2, rs, re, r1, e1, fun σ' re' al => ⟨ι, ρ2, S, ds, ρ1, rs, re', r2, e, fun σ2 re2 al2 => q σ2 re2 (by rw [tsslots]; exact al.trans al2)⟩⟩
theorem asgTs_len : ∀ {ts : Tgs} {ds : List D} {ρ ρ1 : Env}, asgTs ts ds ρ = some ρ1 → ds.length = tlen ts
  | .nil, ds, ρ, ρ1, h => by
    rw [asgTs] at h
    split at h
    · rename_i hz
      have : ds = [] := by simpa using hz
      rw [this]; rfl
    · cases h
  | .cons t r, [], ρ, ρ1, h => by rw [asgTs] at h; cases h
  | .cons t r, d :: ds, ρ, ρ1, h => by
    rw [asgTs] at h
    cases e1 : asgT t d ρ with
    | none => simp only [e1] at h; cases h
    | some ρ2 =>
      simp only [e1, Option.bind_some] at h
      rw [List.length_cons, asgTs_len h]; rfl
theorem snd_gt {es : List Expr} {ts : Tgs} {k : Nat} (hK : g.K = X.K) (hc : X.calm = true) (h : PGs X es (rdGs g ts)) (hn : (assignEach es X.env).length = tlen ts) (hst : (assignEach es X.env).findIdx? (·.1) = none) : PG X (.Tuple es k pos) (rdG g (.t ts)) :=
  (pg_tup (pos := pos) (k := k) (n := tlen ts) hc h hn hst).weak fun v σ H Q ⟨ι, ρ, S, d, ρ1, rs, re, rd, e, q⟩ => by
    cases d with
    | tup ds =>
      rw [asgT] at e
      obtain ⟨a, vs, rfl, t, rr⟩ := rd.tup_inv
      exact ⟨a, vs, rfl, hK ▸ t.sq, by rw [← rr.length]; exact asgTs_len e, ι, ρ, S, ds, ρ1, rs, re, rr, e, fun σ2 re2 al => q σ2 re2 (by rw [tslots]; exact al)⟩
    | _ => simp [asgT] at e
end
end Lm

/-! Soundness: comprehensions. -/
namespace Lm
open PySem PySem.Spec PyProof.Rows L2

section
variable {X : Cx} {g : G} {C : Cn} {pos : Pos}
def rdIfs (g : G) (C : Cn) (t : Es) : TT := fun σ H Q => ∃ ι ρ S, RelS g ι S H ∧ RelE g ι S.n H ρ σ ∧ OutB g ι S H (evIfs C t ρ S) Q
theorem _root_.L2.PTs.weak {X : Cx} {e : List Expr} {t t' : TT} (h : PTs X e t) (w : ∀ σ H Q, t' σ H Q → t σ H Q) : PTs X e t' := ⟨fun pins s σ H Q I q => h.run pins s σ H Q I (w σ H Q q)⟩
theorem snd_ifs0 : PTs X [] (rdIfs g C .nil) := pts_nil.weak fun σ H Q ⟨ι, ρ, S, r, re, q⟩ => by
  rw [evIfs] at q
  exact q ι H (Post.refl r)
theorem snd_ifs1 {e : Expr} {t : E} (h : PT X e (rdT g C t)) : PTs X [e] (rdIfs g C (.cons t .nil)) := (pts_one h).weak fun σ H Q ⟨ι, ρ, S, r, re, q⟩ => by
  refine ⟨ι, ρ, S, r, re, ?_⟩
  rw [evIfs] at q
  obtain ⟨b, S1, e1, q⟩ := q.bnd
  rw [e1]
  intro ι1 H1 p1
  cases b with
  | true => simp only [if_true] at q; rw [evIfs] at q; exact q ι1 H1 p1
  | false => exact q ι1 H1 p1

theorem tLc_of {e : E} {t : Tg} {i : Lm.It} {ifs : Es} {own : List Nat} {σ : L2.St} {H : Hp} {Q : VK} (ht : ∀ j ∈ tslots t, j ∈ own) (h : rdE g C (.lc e t i ifs own) σ H Q) : tLc (rdI g C i) (rdG g t) (rdIfs g C ifs) (rdE g C e) own σ H Q := by
  obtain ⟨ι, ρ, S, r, re, q⟩ := h
  rw [evE] at q
  obtain ⟨p, S1, e1, q⟩ := q.bnd
  refine ⟨ι, ρ, S, r, re, ?_⟩
  rw [e1]
  intro ι1 H1 J p1 ok D hD
  obtain ⟨u, S5, e2, q⟩ := q.bnd
  split at q
  · rename_i st5
    have p2 := p1.rel.push (o := .lst false []) (u := .lst []) hD ⟨[], by rw [RelDs], by simp [upd_same]⟩
    have q2 := q.post (p1.trans p2)
    refine ⟨fun j m H2 => m = p.1.length - j ∧ j ≤ p.1.length ∧ ∃ ι2 S2 acc, Post g (ext ι1 S1.n D) (S1.push (.lst false [])) (upd H1 D (.lst [])) ι2 S2 H2 ∧ stands S2 [] = true ∧ lcLoop (fun x S2 => match asgT t x (Lm.wipe ρ own) with
        | some ρ1 => (evIfs C ifs ρ1 S2).bnd fun b S3 => if b then (evE C e ρ1 S3).bnd fun y S4 => .ok (some y) S4 else .ok none S3
        | none => .bad) p.2 S1.n (p.1.drop j) acc S2 = .ok u S5, ⟨p.1.length, ?_⟩, ?_⟩
    · exact ⟨rfl, Nat.zero_le _, ext ι1 S1.n D, S1.push (.lst false []), [], Post.refl p2.rel, rfl, e2⟩
    · rintro j m H2 ⟨rfl, hj, ι2, S2, acc, p3, -, e3⟩
      have hn : S1.n ≤ S2.n := Nat.le_trans p2.le p3.le
      have hx : ∀ i, i < S1.n → ι2 i = ι1 i := fun i hi => (p3.ext i (Nat.lt_of_lt_of_le hi p2.le)).trans (p2.ext i hi)
      have hk : Keep H1 H2 := p2.keep.trans p3.keep
      have hDa : ι2 S1.n = D := by rw [p3.ext _ (Nat.lt_succ_self _), ext_same]
      by_cases hl : j = p.1.length
      · -- the end
        left
        rw [hl, List.drop_length] at e3
        simp only [lcLoop, R.ok.injEq] at e3
        obtain ⟨-, e4⟩ := e3
        subst e4
        obtain ⟨-, hst, -⟩ := ok ι2 S2 H2 hn hx hk p3.rel st5
        refine ⟨hl ▸ hst, q2 ι2 _ H2 p3 ?_⟩
        rw [RelD]
        exact ⟨Nat.lt_of_lt_of_le (Nat.lt_succ_self _) p3.le, by rw [hDa]⟩
      · right
        have hj' : j < p.1.length := by omega
        rw [List.drop_eq_getElem_cons hj'] at e3
        simp only [lcLoop] at e3
        split at e3
        · rename_i st2
          obtain ⟨hgo, -, hy⟩ := ok ι2 S2 H2 hn hx hk p3.rel st2
          refine ⟨hgo j hj', fun H3 => ∃ ι3 S3 acc, Post g (ext ι1 S1.n D) (S1.push (.lst false [])) (upd H1 D (.lst [])) ι3 S3 H3 ∧ lcLoop (fun x S2 => match asgT t x (Lm.wipe ρ own) with
              | some ρ1 => (evIfs C ifs ρ1 S2).bnd fun b S3 => if b then (evE C e ρ1 S3).bnd fun y S4 => .ok (some y) S4 else .ok none S3
              | none => .bad) p.2 S1.n (p.1.drop (j + 1)) acc S3 = .ok u S5, ?_, ?_⟩
          · rintro H3 ⟨ι3, S3, acc3, p4, e4⟩
            exact ⟨p.1.length - (j + 1), by omega, rfl, by omega, ι3, S3, acc3, p4, rfl, e4⟩
          · intro x H3 hyx
            obtain ⟨p4, rx⟩ := hy j x H3 _ (List.getElem?_eq_getElem hj') hyx
            obtain ⟨o, S3, e4, e3⟩ := bnd_ok (g := fun r => r = R.ok u S5) (by simp) (by simp) e3
            split at e4
            · rename_i ρ1 e5
              obtain ⟨b, S4, e6, e4⟩ := bnd_ok (g := fun r => r = R.ok o S3) (by simp) (by simp) e4
              have pA := p3.trans p4
              have reW : RelE g ι2 S2.n H3 (Lm.wipe ρ own) (L2.wipe σ own) := ((p1.trans (p2.trans pA)).e re).wipe own
              refine ⟨ι2, _, S2, _, ρ1, p4.rel, reW, rx, e5, fun σ2 re2 al => ⟨al.wipe ht, ι2, ρ1, S2, p4.rel, re2, ?_⟩⟩
              rw [e6]
              intro ι3 H4 p5
              cases b with
              | false =>
                simp only [Bool.false_eq_true, if_false, R.ok.injEq] at e4
                obtain ⟨e7, e8⟩ := e4
                subst e7; subst e8
                simp only at e3
                exact ⟨ι3, S4, acc, pA.trans p5, e3⟩
              | true =>
                simp only [if_true] at e4
                obtain ⟨y, S6, e7, e4⟩ := bnd_ok (g := fun r => r = R.ok o S3) (by simp) (by simp) e4
                simp only [R.ok.injEq] at e4
                obtain ⟨e8, e9⟩ := e4
                subst e8; subst e9
                simp only at e3
                split at e3
                · rename_i hc
                  show rdE g C e σ2 H4 _
                  refine ⟨ι3, ρ1, S4, p5.rel, p5.e re2, ?_⟩
                  rw [e7]
                  intro ι4 v H5 p6 rv
                  obtain ⟨vs, rr, _, hf⟩ := p6.rel.lst hc.2
                  have pB := pA.trans (p5.trans p6)
                  have hD2 : ι4 S1.n = D := by rw [pB.ext _ (Nat.lt_succ_self _), ext_same]
                  have hf := hf rfl
                  rw [hD2] at hf
                  refine ⟨vs, hf, by rw [← rr.length, ← lim_eq]; exact hc.1, ?_⟩
                  have pw := p6.rel.write (o := .lst false (acc ++ [y])) (w := .lst (vs ++ [v])) hc.2 (by rw [hD2]; exact hf) (by intro xs z; cases z) (by intro b z; cases z)
                    ⟨vs ++ [v], RelDs.mono (Nat.le_refl _) (fun _ _ => rfl) (keep_mut (by rw [hD2]; exact hf) (by intro xs z; cases z)) _ _ (rr.append (RelDs.cons rv RelDs.nil)), by simp [upd_same]⟩
                  rw [hD2] at pw
                  exact ⟨ι4, _, acc ++ [y], pB.trans pw, e3⟩
                · cases e3
            · cases e4
        · cases e3
  · exact q.elim
end
end Lm

/-! Soundness: statements. -/
namespace Lm
open PySem PySem.Spec PyProof.Rows L2

def OutF (g : G) (ι : Nat → Addr) (S : St) (H : Hp) (r : R F) (D : Ends) : Prop :=
  match r with
  | .ok (.nx ρ') S' => ∀ ι' σ' H', Post g ι S H ι' S' H' → RelE g ι' S'.n H' ρ' σ' → D.nx σ' H'
  | .ok (.rt d) S' => ∀ ι' v H', Post g ι S H ι' S' H' → RelD g ι' S'.n H' d v → D.rt v H'
  | _ => False
def rdS (g : G) (C : Cn) (t : Lm.S) : TS := fun D σ H => ∃ ι ρ S, RelS g ι S H ∧ RelE g ι S.n H ρ σ ∧ OutF g ι S H (evS C t ρ S) D
def rdSs (g : G) (C : Cn) (t : Ss) : TS := fun D σ H => ∃ ι ρ S, RelS g ι S H ∧ RelE g ι S.n H ρ σ ∧ OutF g ι S H (evSs C t ρ S) D
theorem _root_.L2.PS.weak {X : Cx} {e : Stmt} {t t' : TS} (h : PS X e t) (w : ∀ σ H Q, t' σ H Q → t σ H Q) : PS X e t' := ⟨fun pins s σ H Q I q => h.run pins s σ H Q I (w Q σ H q)⟩
theorem _root_.L2.PSs.weak {X : Cx} {e : List Stmt} {t t' : TS} (h : PSs X e t) (w : ∀ σ H Q, t' σ H Q → t σ H Q) : PSs X e t' := ⟨fun pins s σ H Q I q => h.run pins s σ H Q I (w Q σ H q)⟩
section
variable {g : G} {ι ι' : Nat → Addr} {S S' : St} {H H' : Hp} {D : Ends}
theorem OutF.post {r : R F} (h : OutF g ι S H r D) (p : Post g ι S H ι' S' H') : OutF g ι' S' H' r D := by
  cases r with
  | ok f S1 =>
    cases f with
    | nx ρ => exact fun ι1 v H1 p1 r1 => h ι1 v H1 (p.trans p1) r1
    | rt d => exact fun ι1 v H1 p1 r1 => h ι1 v H1 (p.trans p1) r1
  | exc _ _ => exact h
  | bad => exact h
theorem OutF.bnd {α : Type} {r : R α} {f : α → St → R F} (h : OutF g ι S H (r.bnd f) D) : ∃ a S1, r = .ok a S1 ∧ OutF g ι S H (f a S1) D :=
  bnd_ok (g := fun r => OutF g ι S H r D) (fun h => h) (fun _ _ h => h) h
theorem OutF.nx {ρ : Env} {σ : L2.St} (h : OutF g ι S H (.ok (.nx ρ) S) D) (r : RelS g ι S H) (re : RelE g ι S.n H ρ σ) : D.nx σ H := h ι σ H (Post.refl r) re
end

section
variable {X : Cx} {g : G} {C : Cn} {pos : Pos}
theorem snd_pass : PS X (.Pass pos) (rdS g C .pas) := ps_pass.weak fun D σ H ⟨ι, ρ, S, r, re, q⟩ => by
  rw [evS] at q
  exact q.nx r re
theorem snd_expr {e : Expr} {t : E} (h : PE X e (rdE g C t)) (hs : swapsWith e none pos.line X.env = pure false) : PS X (.Expr e pos) (rdS g C (.ex t)) := (ps_expr h hs).weak fun D σ H ⟨ι, ρ, S, r, re, q⟩ => by
  rw [evS] at q
  obtain ⟨d, S1, e1, q⟩ := q.bnd
  exact rdE_of r re e1 fun ι1 v H1 p1 re1 r1 => (q.post p1).nx p1.rel re1
theorem snd_ret {e : Expr} {t : E} (h : PE X e (rdE g C t)) : PS X (.Return (some e) pos) (rdS g C (.ret t)) := (ps_ret h).weak fun D σ H ⟨ι, ρ, S, r, re, q⟩ => by
  rw [evS] at q
  obtain ⟨d, S1, e1, q⟩ := q.bnd
  exact rdE_of r re e1 fun ι1 v H1 p1 re1 r1 => q ι1 v H1 p1 r1
theorem snd_retN : PS X (.Return none pos) (rdS g C .retN) := ps_retN.weak fun D σ H ⟨ι, ρ, S, r, re, q⟩ => by
  rw [evS] at q
  exact q ι .non H (Post.refl r) (by rw [RelD])
theorem snd_if {c : Expr} {a b : List Stmt} {t : E} {u w : Ss} (hc : PT X c (rdT g C t)) (ha : PSs X a (rdSs g C u)) (hb : PSs X b (rdSs g C w)) : PS X (.If c a b pos) (rdS g C (.iff t u w)) := (ps_if hc ha hb).weak fun D σ H ⟨ι, ρ, S, r, re, q⟩ => by
  rw [evS] at q
  obtain ⟨k, S1, e1, q⟩ := q.bnd
  refine rdT_of r re e1 fun ι1 H1 p1 re1 => ?_
  cases k with
  | true => exact ⟨ι1, ρ, S1, p1.rel, re1, q.post p1⟩
  | false => exact ⟨ι1, ρ, S1, p1.rel, re1, q.post p1⟩
theorem snd_snil : PSs X [] (rdSs g C .nil) := pss_nil.weak fun D σ H ⟨ι, ρ, S, r, re, q⟩ => by
  rw [evSs] at q
  exact q.nx r re
theorem snd_scons {s : Stmt} {ss : List Stmt} {t : Lm.S} {u : Ss} (h : PS X s (rdS g C t)) (h2 : PSs X ss (rdSs g C u)) : PSs X (s :: ss) (rdSs g C (.cons t u)) := (pss_cons h h2).weak fun D σ H ⟨ι, ρ, S, r, re, q⟩ => by
  refine ⟨ι, ρ, S, r, re, ?_⟩
  rw [evSs] at q
  obtain ⟨f, S1, e1, q⟩ := q.bnd
  rw [e1]
  cases f with
  | nx ρ1 => exact fun ι1 σ1 H1 p1 re1 => ⟨ι1, ρ1, S1, p1.rel, re1, q.post p1⟩
  | rt d => exact fun ι1 v H1 p1 r1 => q ι1 v H1 p1 r1

/-! ### assignments -/
def notComp : Expr → Bool
  | .ListComp _ _ _ _ => false
  | .SetComp _ _ _ _ => false
  | .DictComp _ _ _ _ _ => false
  | _ => true
theorem swaps_no {e : Expr} (h : notComp e = true) (t : Option Expr) (l : Nat) (env : PySem.Env) : swapsWith e t l env = pure false := by
  cases e <;> first | rfl | (exact absurd h (by simp [notComp]))
theorem asgV_n {i : Nat} {d : D} {ρ ρ1 : Env} {S : St} (h : asgV (.n i) d ρ S = some ρ1) : ρ1 = ρ.set i (some d) := by
  unfold asgV at h
  rw [asgT] at h
  exact (Option.some.inj h).symm
theorem snd_asgN {i : Nat} {x : Str} {e : Expr} {t : E} {pos' : Pos} (hN : X.N.Nodup) (hi : X.N[i]? = some x) (hx : Loc X.env.scope x) (hf : X.fn x = true ∨ X.env.scope.names.lookup x = some .local) (hs : swapsWith e (some (.Name x pos')) pos.line X.env = pure false) (h : PE X e (rdE g C t)) : PS X (.Assign [.Name x pos'] e pos) (rdS g C (.asg (.n i) t)) :=
  (ps_set hN hi hx h hs hf).weak fun D σ H ⟨ι, ρ, S, r, re, q⟩ => by
    rw [evS] at q
    obtain ⟨d, S1, e1, q⟩ := q.bnd
    refine rdE_of r re e1 fun ι1 v H1 p1 re1 r1 => ?_
    split at q
    · rename_i ρ1 e2
      rw [asgV_n e2] at q
      exact (q.post p1).nx p1.rel (re1.set r1)
    · exact q.elim
/-- name = [..] -/
theorem snd_asgLc {i : Nat} {x : Str} {elt tg iter : Expr} {ifs : List Expr} {scope : Scope} {own : List (Str × Nat)} {p spos py : Pos} {e : E} {t : Tg} {it : Lm.It} {fs : Es} (hc : X.calm = true) (hN : X.N.Nodup) (hi : X.N[i]? = some x) (hx : X.env.scope.names.lookup x = some .local)
    (hs : swapsWith (.ListComp elt [⟨tg, iter, ifs, 0⟩] scope p) (some (.Name x py)) spos.line X.env = pure true) (hI : PI X tg iter (rdI g C it)) (ok : BlkOk X.N X.env.scope scope own) (hsl : ∀ j ∈ tslots t, j ∈ own.map (·.2))
    (hg : ∀ (s : Shared) (H : Hp) (A : Addr) (cl : List (Str × Addr)) (fp : List Addr), PG (X.blk s H scope (compEnvC scope cl A X.env) fp) tg (rdG g t)) (ht : ∀ (s : Shared) (H : Hp) (A : Addr) (cl : List (Str × Addr)) (fp : List Addr), PTs (X.blk s H scope (compEnvC scope cl A X.env) fp) ifs (rdIfs g C fs))
    (he : ∀ (s : Shared) (H : Hp) (A : Addr) (cl : List (Str × Addr)) (fp : List Addr), PE (X.blk s H scope (compEnvC scope cl A X.env) fp) elt (rdE g C e)) (hfs : ∀ x, foldedSetIterable iter X.env x = pure x) :
    PS X (.Assign [.Name x py] (.ListComp elt [⟨tg, iter, ifs, 0⟩] scope p) spos) (rdS g C (.asg (.n i) (.lc e t it fs (own.map (·.2))))) :=
  (ps_setLc hc hN hi hx hs hI ok hg ht he hfs).weak fun D σ H ⟨ι, ρ, S, r, re, q⟩ => by
    rw [evS] at q
    obtain ⟨d, S1, e1, q⟩ := q.bnd
    refine tLc_of hsl (rdE_of r re e1 fun ι1 v H1 p1 re1 r1 => ?_)
    split at q
    · rename_i ρ1 e2
      rw [asgV_n e2] at q
      exact (q.post p1).nx p1.rel (re1.set r1)
    · exact q.elim
theorem snd_lc {elt tg iter : Expr} {ifs : List Expr} {scope : Scope} {own : List (Str × Nat)} {e : E} {t : Tg} {it : Lm.It} {fs : Es} (hc : X.calm = true) (hN : X.N.Nodup) (hI : PI X tg iter (rdI g C it)) (ok : BlkOk X.N X.env.scope scope own) (hsl : ∀ j ∈ tslots t, j ∈ own.map (·.2))
    (hg : ∀ (s : Shared) (H : Hp) (A : Addr) (cl : List (Str × Addr)) (fp : List Addr), PG (X.blk s H scope (compEnvC scope cl A X.env) fp) tg (rdG g t)) (ht : ∀ (s : Shared) (H : Hp) (A : Addr) (cl : List (Str × Addr)) (fp : List Addr), PTs (X.blk s H scope (compEnvC scope cl A X.env) fp) ifs (rdIfs g C fs))
    (he : ∀ (s : Shared) (H : Hp) (A : Addr) (cl : List (Str × Addr)) (fp : List Addr), PE (X.blk s H scope (compEnvC scope cl A X.env) fp) elt (rdE g C e)) (hfs : ∀ x, foldedSetIterable iter X.env x = pure x) :
    PE X (.ListComp elt [⟨tg, iter, ifs, 0⟩] scope pos) (rdE g C (.lc e t it fs (own.map (·.2)))) :=
  (pe_lc hc hN hI ok hg ht he hfs).weak fun σ H Q h => tLc_of hsl h

/-- a tuple of targets and a value that is no tuple display -/
theorem asgV_t {ts : Tgs} {d : D} {ρ ρ1 : Env} {S : St} (h : asgV (.t ts) d ρ S = some ρ1) : (∃ ds, d = .tup ds ∧ asgTs ts ds ρ = some ρ1) ∨ ∃ a lk ds, d = .ref a ∧ S.get a = some (.lst lk ds) ∧ asgTs ts ds ρ = some ρ1 := by
  cases d with
  | tup ds => exact .inl ⟨ds, rfl, by unfold asgV at h; rw [asgT] at h; exact h⟩
  | ref a =>
    unfold asgV at h
    simp only at h
    split at h
    · rename_i lk ds e1
      exact .inr ⟨a, lk, ds, rfl, e1, h⟩
    · cases h
  | _ => simp [asgV, asgT] at h
theorem snd_asgT {es : List Expr} {e : Expr} {ts : Tgs} {t : E} {k : Nat} {p : Pos} (hK : g.K = X.K) (hc : X.calm = true) (h : PE X e (rdE g C t)) (hg : PGs X es (rdGs g ts)) (hn : (assignEach es X.env).length = tlen ts) (hst : (assignEach es X.env).findIdx? (·.1) = none)
    (hs : swapsWithSole [.Tuple es k p] e pos.line X.env = pure false) (hw : swappedStores [.Tuple es k p] e X.env = pure none) : PS X (.Assign [.Tuple es k p] e pos) (rdS g C (.asg (.t ts) t)) := by
  refine ⟨fun pins s σ H D I ⟨ι, ρ, S, r, re, q⟩ => ?_⟩
  rw [evS] at q
  obtain ⟨d, S1, e1, q⟩ := q.bnd
  split at q
  · rename_i ρ1 e2
    rcases asgV_t e2 with ⟨ds, rfl, e3⟩ | ⟨a, lk, ds, rfl, e0, e3⟩
    · refine (ps_asg (pos := pos) h (pg_tup (pos := p) (k := k) (n := tlen ts) hc hg hn hst) hs hw rfl).run pins s σ H D I (rdE_of r re e1 fun ι1 v H1 p1 re1 r1 => ?_)
      obtain ⟨a, vs, rfl, tt, rr⟩ := r1.tup_inv
      exact ⟨a, vs, rfl, hK ▸ tt.sq, by rw [← rr.length]; exact asgTs_len e3, ι1, ρ, S1, ds, ρ1, p1.rel, re1, rr, e3, fun σ' re' _ => (q.post p1).nx p1.rel re'⟩
    · refine (ps_asg (pos := pos) h (pg_unl (pos := p) (k := k) (n := tlen ts) hc hg hn hst) hs hw rfl).run pins s σ H D I (rdE_of r re e1 fun ι1 v H1 p1 re1 r1 => ?_)
      obtain ⟨_, rfl⟩ := r1.ref_inv
      obtain ⟨vs, rr, sq, _⟩ := p1.rel.lst e0
      exact ⟨ι1 a, vs, rfl, hK ▸ sq, by rw [← rr.length]; exact asgTs_len e3, ι1, ρ, S1, ds, ρ1, p1.rel, re1, rr, e3, fun σ' re' _ => (q.post p1).nx p1.rel re'⟩
  · exact q.elim
/-- a, b = x, y -/
theorem snd_par {i j : Nat} {x y : Str} {a b : Expr} {px py pt : Pos} {kt k2 pt2} {ts : Es} (hc : X.calm = true) (hN : X.N.Nodup) (hi : X.N[i]? = some x) (hj : X.N[j]? = some y) (hij : i ≠ j) (hx : X.env.scope.names.lookup x = some .local) (hy : X.env.scope.names.lookup y = some .local)
    (ha : PA X [a, b] (rdEs g C ts)) (hw : swappedStores [.Tuple [.Name x px, .Name y py] kt pt] (.Tuple [a, b] k2 pt2) X.env = pure (some [x, y])) : PS X (.Assign [.Tuple [.Name x px, .Name y py] kt pt] (.Tuple [a, b] k2 pt2) pos) (rdS g C (.asg (.t (.cons (.n i) (.cons (.n j) .nil))) (.tup ts))) :=
  (ps_par hc hN hi hj hij hx hy ha hw rfl).weak fun D σ H ⟨ι, ρ, S, r, re, q⟩ => by
    rw [evS] at q
    obtain ⟨d, S1, e1, q⟩ := q.bnd
    rw [evE] at e1
    obtain ⟨ds, S2, e2, e1⟩ := bnd_ok (g := fun r => r = R.ok d S1) (by simp) (by simp) e1
    split at e1
    · simp only [R.ok.injEq] at e1
      obtain ⟨e3, e4⟩ := e1
      subst e3; subst e4
      split at q
      · rename_i ρ1 e5
        refine rdEs_of r re e2 fun ι1 vs H1 p1 re1 r1 => ?_
        unfold asgV at e5
        rw [asgT] at e5
        rcases ds with _ | ⟨d1, _ | ⟨d2, _ | ⟨d3, r3⟩⟩⟩
        · simp [asgTs] at e5
        · simp [asgTs, asgT] at e5
        · simp only [asgTs, asgT, Option.bind_some, List.isEmpty_nil, if_true, Option.some.injEq] at e5
          obtain ⟨v, w, rfl, r2, r3⟩ := r1.two
          subst e5
          exact ⟨v, w, rfl, (q.post p1).nx p1.rel ((re1.set r2).set r3)⟩
        · simp [asgTs, asgT] at e5
      · exact q.elim
    · cases e1
theorem snd_par3 {i j l : Nat} {x y z : Str} {a b c : Expr} {px py pz pt : Pos} {kt k2 pt2} {ts : Es} (hc : X.calm = true) (hN : X.N.Nodup) (hi : X.N[i]? = some x) (hj : X.N[j]? = some y) (hl : X.N[l]? = some z) (hij : i ≠ j) (hil : i ≠ l) (hjl : j ≠ l) (hx : X.env.scope.names.lookup x = some .local) (hy : X.env.scope.names.lookup y = some .local) (hz : X.env.scope.names.lookup z = some .local)
    (ha : PA X [a, b, c] (rdEs g C ts)) (hw : swappedStores [.Tuple [.Name x px, .Name y py, .Name z pz] kt pt] (.Tuple [a, b, c] k2 pt2) X.env = pure (some [x, y, z])) : PS X (.Assign [.Tuple [.Name x px, .Name y py, .Name z pz] kt pt] (.Tuple [a, b, c] k2 pt2) pos) (rdS g C (.asg (.t (.cons (.n i) (.cons (.n j) (.cons (.n l) .nil)))) (.tup ts))) :=
  (ps_par3 hc hN hi hj hl hij hil hjl hx hy hz ha hw rfl).weak fun D σ H ⟨ι, ρ, S, r, re, q⟩ => by
    rw [evS] at q
    obtain ⟨d, S1, e1, q⟩ := q.bnd
    rw [evE] at e1
    obtain ⟨ds, S2, e2, e1⟩ := bnd_ok (g := fun r => r = R.ok d S1) (by simp) (by simp) e1
    split at e1
    · simp only [R.ok.injEq] at e1
      obtain ⟨e3, e4⟩ := e1
      subst e3; subst e4
      split at q
      · rename_i ρ1 e5
        refine rdEs_of r re e2 fun ι1 vs H1 p1 re1 r1 => ?_
        unfold asgV at e5
        rw [asgT] at e5
        rcases ds with _ | ⟨d1, _ | ⟨d2, _ | ⟨d3, _ | ⟨d4, r4⟩⟩⟩⟩
        · simp [asgTs] at e5
        · simp [asgTs, asgT] at e5
        · simp [asgTs, asgT] at e5
        · simp only [asgTs, asgT, Option.bind_some, List.isEmpty_nil, if_true, Option.some.injEq] at e5
          rw [RelDs] at r1
          obtain ⟨u, w1, rfl, r2, r1⟩ := r1
          obtain ⟨v, w, rfl, r3, r4⟩ := r1.two
          subst e5
          exact ⟨u, v, w, rfl, (q.post p1).nx p1.rel (((re1.set r2).set r3).set r4)⟩
        · simp [asgTs, asgT] at e5
      · exact q.elim
    · cases e1

/-! ### stores by place -/
/-- no class of the program has the method -/
def NoM (P : Prog) (m : Txt) : Prop := ∀ c t, P.cl c = some t → t.meth.lookup m = none
theorem noM_bind {P : Prog} {m : Txt} (h : NoM P m) (c : Nat) : ((P.cl c).bind fun t => t.meth.lookup m) = none := by
  cases e : P.cl c with
  | none => rfl
  | some t => exact h c t e
theorem snd_asgS {o i e : Expr} {to ti te : E} {p : Pos} (hn : NoM C.P [95, 95, 115, 101, 116, 105, 116, 101, 109, 95, 95]) (hK : g.K = X.K) (hs : swapsWithSole [.Subscript o i p] e pos.line X.env = pure false) (ho : PE X o (rdE g C to)) (hi : PE X i (rdE g C ti)) (he : PE X e (rdE g C te))
    (ha : ∀ v, assign (.Subscript o i p) X.env v = (do
      let ov ← holding [v] (eval o X.env)
      let iv ← holding [v, ov] (eval i X.env)
      standAt p
      holding [v, ov, iv] (setItem ov iv v)
      release [v, ov, iv] [])) : PS X (.Assign [.Subscript o i p] e pos) (rdS g C (.asgS to ti te)) := by
  refine ⟨fun pins s σ H D I ⟨ι, ρ, S, r, re, q⟩ => ?_⟩
  rw [evS] at q
  obtain ⟨v, S1, e1, q⟩ := q.bnd
  obtain ⟨x, S2, e2, q⟩ := q.bnd
  obtain ⟨k, S3, e3, q⟩ := q.bnd
  obtain ⟨u, S4, e4, q⟩ := q.bnd
  -- the object is a list
  cases x with
  | ref a =>
    simp only [opSet] at e4
    cases e5 : S3.get a with
    | none => rw [e5] at e4; cases e4
    | some ob =>
      rw [e5] at e4
      cases ob with
      | lst lk ds =>
        cases lk with
        | true => cases e4
        | false =>
          cases k with
          | int kk =>
            simp only at e4
            split at e4
            · rename_i hk
              simp only [R.ok.injEq] at e4
              obtain ⟨-, e6⟩ := e4
              subst e6
              refine (ps_asg (pos := pos) he (pg_sub ho hi set_list ha) hs rfl rfl).run pins s σ H D I (rdE_of r re e1 fun ι1 w H1 p1 re1 r1 => rdE_of p1.rel re1 e2 fun ι2 w2 H2 p2 re2 r2 => rdE_of p2.rel re2 e3 fun ι3 w3 H3 p3 re3 r3 => ?_)
              obtain ⟨_, rfl⟩ := (p3.d r2).ref_inv
              obtain ⟨vs, rr, _, f⟩ := p3.rel.lst e5
              have hf := f rfl
              have hlen := rr.length
              refine ⟨ι3 a, vs, kk, kk.toNat, rfl, r3.int_inv, hf, ?_, ?_⟩
              · unfold ixN
                rw [if_pos hk.1, if_pos (by rw [← hlen]; exact hk.2)]
              · have rv := (p2.trans p3).d r1
                have pw := p3.rel.write (o := .lst false (ds.set kk.toNat v)) (w := .lst (vs.set kk.toNat w)) e5 hf (by intro xs z; cases z) (by intro b z; cases z)
                  ⟨vs.set kk.toNat w, RelDs.mono (Nat.le_refl _) (fun _ _ => rfl) (keep_mut hf (by intro xs z; cases z)) _ _ (RelDs.set rv _ rr), by simp [upd_same]⟩
                have pa := (p1.trans (p2.trans p3)).trans pw
                exact (q.post pa).nx pa.rel (pw.e re3)
            · cases e4
          | _ => cases e4
      | dct lk kvs =>
        refine (ps_asg (pos := pos) he (pg_sub ho hi set_list ha) hs rfl rfl).run pins s σ H D I (rdE_of r re e1 fun ι1 w H1 p1 re1 r1 => rdE_of p1.rel re1 e2 fun ι2 w2 H2 p2 re2 r2 => rdE_of p2.rel re2 e3 fun ι3 w3 H3 p3 re3 r3 => ?_)
        exact (p3.rel.obj _ _ e5).elim
      | ins c fs =>
        simp only [noM_bind hn] at e4
        cases e4
      | clo _ _ => cases e4
  | _ => cases e4

/-! ### name op= e -/
theorem snd_aug {i : Nat} {x : Str} {e : Expr} {o : Bin} {op : Operator} {t : E} {p : Pos} (ho : OpS X g (inplaceOp op) (opBinI o)) (hN : X.N.Nodup) (hi : X.N[i]? = some x) (hx : Loc X.env.scope x) (hf : X.fn x = true ∨ X.env.scope.names.lookup x = some .local) (h : PE X e (rdE g C t)) : PS X (.AugAssign (.Name x p) op e pos) (rdS g C (.aug i o t)) :=
  (ps_aug (pos := pos) (pos' := p) hN hi hx h ho hf).weak fun D σ H ⟨ι, ρ, S, r, re, q⟩ => by
    rw [evS] at q
    split at q
    · rename_i d e0
      obtain ⟨v, e1, rv⟩ := re.2 i d e0
      obtain ⟨y, S1, e2, q⟩ := q.bnd
      refine ⟨v, e1, rdE_of r re e2 fun ι1 w H1 p1 re1 r1 => ⟨ι1, S1, d, y, p1.rel, p1.d rv, r1, ?_⟩⟩
      obtain ⟨z, S2, e3, q⟩ := q.bnd
      rw [e3]
      intro ι2 u H2 p2 r2
      exact (q.post (p1.trans p2)).nx p2.rel ((p2.e re1).set r2)
    · exact q.elim
theorem is_add : OpS X g (inplaceOp .Add) (opBinI .add) := by
  intro pins s σ H x y v u Q I rx ry h
  obtain ⟨ι, S, d, e, r, r1, r2, h⟩ := h
  cases d with
  | int i =>
    cases e with
    | int j =>
      rw [r1.int_inv] at rx; rw [r2.int_inv] at ry
      exact iop_add pins s σ H _ _ v u Q I rx ry ⟨i, j, rfl, rfl, OutD.int h r⟩
    | _ => exact h.elim
  | _ => exact h.elim

/-! ### for, while -/
theorem snd_for {tg iter : Expr} {body : List Stmt} {t : Tg} {i : Lm.It} {b : Ss} (hp : PassesOwn (model X.prog X.w) X.A X.env X.xe) (hc : X.calm = true) (hi : PI X tg iter (rdI g C i)) (hg : PG X tg (rdG g t)) (hb : PSs X body (rdSs g C b)) (hs : ∀ x, foldedSetIterable iter X.env x = pure x) :
    PS X (.For tg iter body [] pos) (rdS g C (.fr t i b)) :=
  (ps_for (pos := pos) hp hc hi hg hb hs).weak fun D σ H ⟨ι, ρ, S, r, re, q⟩ => by
    rw [evS] at q
    obtain ⟨p, S1, e1, q⟩ := q.bnd
    refine ⟨ι, ρ, S, r, re, ?_⟩
    rw [e1]
    intro ι1 H1 J p1 ok
    refine ⟨fun j m σ2 H2 => m = p.1.length - j ∧ j ≤ p.1.length ∧ ∃ ι2 ρ2 S2, Post g ι1 S1 H1 ι2 S2 H2 ∧ RelE g ι2 S2.n H2 ρ2 σ2 ∧ OutF g ι2 S2 H2 (frLoop (fun x ρ1 S2 => match asgT t x ρ1 with
      | some ρ2 => evSs C b ρ2 S2
      | none => .bad) p.2 (p.1.drop j) ρ2 S2) D, ⟨p.1.length, rfl, Nat.zero_le _, ι1, ρ, S1, Post.refl p1.rel, p1.e re, q.post p1⟩, ?_⟩
    rintro j m σ2 H2 ⟨rfl, hj, ι2, ρ2, S2, p2, re2, q2⟩
    by_cases hl : j = p.1.length
    · left
      rw [hl, List.drop_length, frLoop] at q2
      split at q2
      · rename_i st
        obtain ⟨-, hst, -⟩ := ok ι2 S2 H2 p2.le p2.ext p2.keep p2.rel st
        exact ⟨hl ▸ hst, q2.nx p2.rel re2⟩
      · exact q2.elim
    · right
      have hj' : j < p.1.length := by omega
      rw [List.drop_eq_getElem_cons hj', frLoop] at q2
      split at q2
      · rename_i st
        obtain ⟨hgo, -, hy⟩ := ok ι2 S2 H2 p2.le p2.ext p2.keep p2.rel st
        obtain ⟨f, S3, e3, q2⟩ := q2.bnd
        refine ⟨hgo j hj', fun σ3 H3 => ∃ ι2 ρ2 S2, Post g ι1 S1 H1 ι2 S2 H3 ∧ RelE g ι2 S2.n H3 ρ2 σ3 ∧ OutF g ι2 S2 H3 (frLoop (fun x ρ1 S2 => match asgT t x ρ1 with
            | some ρ2 => evSs C b ρ2 S2
            | none => .bad) p.2 (p.1.drop (j + 1)) ρ2 S2) D, fun σ3 H3 h => ⟨p.1.length - (j + 1), by omega, rfl, by omega, h⟩, fun x H3 hyx => ?_⟩
        obtain ⟨p4, rx⟩ := hy j x H3 _ (List.getElem?_eq_getElem hj') hyx
        split at e3
        · rename_i ρ3 e4
          refine ⟨ι2, ρ2, S2, _, ρ3, p4.rel, p4.e re2, rx, e4, fun σ3 re3 _ => ⟨ι2, ρ3, S2, p4.rel, re3, ?_⟩⟩
          rw [e3]
          cases f with
          | nx ρ5 => exact fun ι4 σ4 H4 p5 re4 => ⟨ι4, ρ5, S3, p2.trans (p4.trans p5), re4, q2.post (p4.trans p5)⟩
          | rt d => exact fun ι4 v H4 p5 r4 => q2 ι4 v H4 (p4.trans p5) r4
        · cases e3
      · exact q2.elim
theorem snd_while {c : Expr} {body : List Stmt} {t : E} {b : Ss} (hp : PassesOwn (model X.prog X.w) X.A X.env X.xe) (hc : PT X c (rdT g C t)) (hb : PSs X body (rdSs g C b)) : PS X (.While c body [] pos) (rdS g C (.whl t b)) :=
  (ps_while (pos := pos) hp hc hb).weak fun D σ H ⟨ι, ρ, S, r, re, q⟩ => by
    rw [evS] at q
    refine ⟨fun m σ2 H2 => ∃ ι2 ρ2 S2, RelS g ι2 S2 H2 ∧ RelE g ι2 S2.n H2 ρ2 σ2 ∧ OutF g ι2 S2 H2 (whLoop (fun ρ S => (evE C t ρ S).bnd truth) (evSs C b) m ρ2 S2) D, ⟨C.w, ι, ρ, S, r, re, q⟩, ?_⟩
    rintro m σ2 H2 ⟨ι2, ρ2, S2, r2, re2, q2⟩
    cases m with
    | zero => exact q2.elim
    | succ m =>
      rw [whLoop] at q2
      obtain ⟨k, S3, e3, q2⟩ := q2.bnd
      refine ⟨ι2, ρ2, S2, r2, re2, ?_⟩
      rw [e3]
      intro ι3 H3 p3
      cases k with
      | false =>
        exact (q2.post p3).nx p3.rel (p3.e re2)
      | true =>
        simp only [if_true] at q2 ⊢
        obtain ⟨f, S4, e4, q2⟩ := q2.bnd
        refine ⟨fun σ3 H3 => ∃ ι2 ρ2 S2, RelS g ι2 S2 H3 ∧ RelE g ι2 S2.n H3 ρ2 σ3 ∧ OutF g ι2 S2 H3 (whLoop (fun ρ S => (evE C t ρ S).bnd truth) (evSs C b) m ρ2 S2) D, fun σ3 H3 h => ⟨m, Nat.lt_succ_self _, h⟩, ι3, ρ2, S3, p3.rel, p3.e re2, ?_⟩
        rw [e4]
        cases f with
        | nx ρ5 => exact fun ι4 σ4 H4 p5 re4 => ⟨ι4, ρ5, S4, p5.rel, re4, q2.post (p3.trans p5)⟩
        | rt d => exact fun ι4 v H4 p5 r4 => q2 ι4 v H4 (p3.trans p5) r4
end
end Lm

/-! Soundness: tests, further forms, the sides of the rules. -/
namespace Lm
open PySem PySem.Spec PyProof.Rows L2

section
variable {X : Cx} {g : G} {C : Cn} {pos : Pos}
/-! ### comparisons as values and tests -/
theorem opCmp_bl {o : Cmp} {x y d : D} {S S' : St} (h : opCmp C o x y S = .ok d S') : ∃ b, d = .bl b := by
  cases o <;> simp only [opCmp] at h
  case isn => cases h; exact ⟨_, rfl⟩
  case isnn => cases h; exact ⟨_, rfl⟩
  case lt => split at h <;> cases h <;> exact ⟨_, rfl⟩
  case le => split at h <;> cases h <;> exact ⟨_, rfl⟩
  case gt => split at h <;> cases h <;> exact ⟨_, rfl⟩
  case ge => split at h <;> cases h <;> exact ⟨_, rfl⟩
  all_goals
    repeat' split at h
    all_goals first
      | (cases h; done)
      | (cases h; exact ⟨_, rfl⟩)
      | (obtain ⟨d1, S1, _, h⟩ := bnd_ok (g := fun r => r = R.ok d S') (by simp) (by simp) h
         split at h <;> cases h
         exact ⟨_, rfl⟩)
theorem rdT_bl {t : E} (hb : ∀ ρ S d S', evE C t ρ S = .ok d S' → ∃ b, d = .bl b) {σ : L2.St} {H : Hp} {Q : Bool → Hp → Prop} (h : rdT g C t σ H Q) : rdE g C t σ H (fun x H' => ∃ k, x = .bl k ∧ Q k H') := by
  obtain ⟨ι, ρ, S, r, re, q⟩ := h
  refine ⟨ι, ρ, S, r, re, ?_⟩
  obtain ⟨d, S1, e1, q⟩ := q.bnd
  rw [e1]
  obtain ⟨b, rfl⟩ := hb _ _ _ _ e1
  intro ι1 v H1 p1 r1
  rw [r1.bl_inv]
  simp only [truth] at q
  exact ⟨b, rfl, q ι1 H1 p1⟩
theorem cmp_bl {o : Cmp} {a b : E} : ∀ ρ S d S', evE C (.cmp o a b) ρ S = .ok d S' → ∃ k, d = .bl k := by
  intro ρ S d S' h
  rw [evE] at h
  obtain ⟨x, S1, _, h⟩ := bnd_ok (g := fun r => r = R.ok d S') (by simp) (by simp) h
  obtain ⟨y, S2, _, h⟩ := bnd_ok (g := fun r => r = R.ok d S') (by simp) (by simp) h
  exact opCmp_bl h
theorem snd_tcmp {a b : Expr} {ta tb : E} {o : Cmp} {op : CmpOp} (ho : OpS X g (compareOp op) (opCmp C o)) (hm : behindInMarks op b = false) (ha : PE X a (rdE g C ta)) (hb : PE X b (rdE g C tb)) : PT X (.Compare a [op] [b] pos) (rdT g C (.cmp o ta tb)) :=
  (pt_cmpR (pos := pos) ho ha hb hm).weak fun σ H Q h => snd_two (op := compareOp op) (fun ρ S => by rw [evE]) (rdT_bl cmp_bl h)
theorem snd_tisn {a : Expr} {ta : E} {j pos'} (ha : PE X a (rdE g C ta)) : PT X (.Compare a [.Is] [.Constant .none j pos'] pos) (rdT g C (.cmp .isn ta .non)) := by
  refine (pt_cmp (pos := pos) (pc_isN (j := j) (pos' := pos') ha)).weak fun σ H Q h => ?_
  obtain ⟨ι, ρ, S, r, re, h⟩ := rdT_bl cmp_bl h
  rw [evE] at h
  obtain ⟨x, S1, e1, h⟩ := h.bnd
  refine rdE_of r re e1 fun ι1 v H1 p1 re1 r1 => ?_
  have h := (h.post p1)
  rw [evE, R.bnd_ok, opCmp] at h
  have q := OutD.bl h p1.rel
  have e : decide (v = V.non) = decide (x = D.non) := by cases x <;> simp_all [RelD] <;> (obtain ⟨a, rfl, _⟩ := r1; simp)
  rw [e]; exact q
theorem snd_tisnn {a : Expr} {ta : E} {j pos'} (ha : PE X a (rdE g C ta)) : PT X (.Compare a [.IsNot] [.Constant .none j pos'] pos) (rdT g C (.cmp .isnn ta .non)) := by
  refine (pt_cmp (pos := pos) (pc_notN (j := j) (pos' := pos') ha)).weak fun σ H Q h => ?_
  obtain ⟨ι, ρ, S, r, re, h⟩ := rdT_bl cmp_bl h
  rw [evE] at h
  obtain ⟨x, S1, e1, h⟩ := h.bnd
  refine rdE_of r re e1 fun ι1 v H1 p1 re1 r1 => ?_
  have h := (h.post p1)
  rw [evE, R.bnd_ok, opCmp] at h
  have q := OutD.bl h p1.rel
  have e : decide (v = V.non) = decide (x = D.non) := by cases x <;> simp_all [RelD] <;> (obtain ⟨a, rfl, _⟩ := r1; simp)
  rw [e]; exact q
/-! ### chains -/
theorem chain_of {ta tb tc : E} {o o' : Cmp} {σ : L2.St} {H : Hp} {Q : VK} (h : rdE g C (.cmp2 o o' ta tb tc) σ H Q) :
    tChain (fun x y H Q => ∃ ι S d e, RelS g ι S H ∧ RelD g ι S.n H d x ∧ RelD g ι S.n H e y ∧ OutD g ι S H (opCmp C o d e S) Q) (fun x y H Q => ∃ ι S d e, RelS g ι S H ∧ RelD g ι S.n H d x ∧ RelD g ι S.n H e y ∧ OutD g ι S H (opCmp C o' d e S) Q) (rdE g C ta) (rdE g C tb) (rdE g C tc) σ H Q := by
  obtain ⟨ι, ρ, S, r, re, h⟩ := h
  rw [evE] at h
  obtain ⟨x, S1, e1, h⟩ := h.bnd
  obtain ⟨y, S2, e2, h⟩ := h.bnd
  obtain ⟨d, S3, e3, h⟩ := h.bnd
  obtain ⟨b, rfl⟩ := opCmp_bl e3
  refine rdE_of r re e1 fun ι1 v H1 p1 re1 r1 => rdE_of p1.rel re1 e2 fun ι2 u H2 p2 re2 r2 => ?_
  refine ⟨ι2, S2, x, y, p2.rel, p2.d r1, r2, ?_⟩
  rw [e3]
  intro ι3 w H3 p3 r3
  rw [r3.bl_inv]
  refine ⟨b, rfl, ?_⟩
  cases b with
  | true =>
    simp only [if_true] at h ⊢
    obtain ⟨z, S4, e4, h⟩ := h.bnd
    exact rdE_of p3.rel (p3.e re2) e4 fun ι4 w4 H4 p4 re4 r4 => ⟨ι4, S4, y, z, p4.rel, (p3.trans p4).d r2, r4, h.post (p1.trans (p2.trans (p3.trans p4)))⟩
  | false => exact (h.post (p1.trans (p2.trans p3))).bl p3.rel
theorem snd_cmp2 {a b c : Expr} {ta tb tc : E} {o o' : Cmp} {op op' : CmpOp} (ho : OpS X g (compareOp op) (opCmp C o)) (ho' : OpS X g (compareOp op') (opCmp C o')) (hm : lastMarks [op, op'] [b, c] = false) (ha : PE X a (rdE g C ta)) (hb : PE X b (rdE g C tb)) (hc : PE X c (rdE g C tc)) :
    PE X (.Compare a [op, op'] [b, c] pos) (rdE g C (.cmp2 o o' ta tb tc)) := (pe_chain (pos := pos) ho ho' ha hb hc hm).weak fun σ H Q h => chain_of h
theorem cmp2_bl {o o' : Cmp} {a b c : E} : ∀ ρ S d S', evE C (.cmp2 o o' a b c) ρ S = .ok d S' → ∃ k, d = .bl k := by
  intro ρ S d S' h
  rw [evE] at h
  obtain ⟨x, S1, _, h⟩ := bnd_ok (g := fun r => r = R.ok d S') (by simp) (by simp) h
  obtain ⟨y, S2, _, h⟩ := bnd_ok (g := fun r => r = R.ok d S') (by simp) (by simp) h
  obtain ⟨z, S3, _, h⟩ := bnd_ok (g := fun r => r = R.ok d S') (by simp) (by simp) h
  split at h
  · obtain ⟨w, S4, _, h⟩ := bnd_ok (g := fun r => r = R.ok d S') (by simp) (by simp) h
    exact opCmp_bl h
  · cases h; exact ⟨_, rfl⟩
  · cases h
theorem snd_tcmp2 {a b c : Expr} {ta tb tc : E} {o o' : Cmp} {op op' : CmpOp} (ho : OpS X g (compareOp op) (opCmp C o)) (ho' : OpS X g (compareOp op') (opCmp C o')) (hm : lastMarks [op, op'] [b, c] = false) (ha : PE X a (rdE g C ta)) (hb : PE X b (rdE g C tb)) (hc : PE X c (rdE g C tc)) :
    PT X (.Compare a [op, op'] [b, c] pos) (rdT g C (.cmp2 o o' ta tb tc)) := (pt_chain (pos := pos) ho ho' ha hb hc hm).weak fun σ H Q h => chain_of (rdT_bl cmp2_bl h)
/-! ### a if c else b, as a test -/
theorem snd_tite {c a b : Expr} {t u w : E} (hc : PT X c (rdT g C t)) (ha : PT X a (rdT g C u)) (hb : PT X b (rdT g C w)) : PT X (.IfExp c a b pos) (rdT g C (.ite t u w)) := by
  refine ⟨fun pins s σ H Q I ⟨ι, ρ, S, r, re, q⟩ => isTrue_IfExp (thn (hc.run pins s σ H (fun k H1 => if k = true then rdT g C u σ H1 Q else rdT g C w σ H1 Q) I ?_) fun k s1 ⟨H1, I1, q1⟩ => ?_)⟩
  · obtain ⟨d, S1, e0, q⟩ := q.bnd
    rw [evE] at e0
    obtain ⟨k, S2, e1, e2⟩ := bnd_ok (g := fun r => r = R.ok d S1) (by simp) (by simp) e0
    refine rdT_of r re e1 fun ι1 H1 p1 re1 => ?_
    cases k with
    | true => simp only [if_true] at e2 ⊢; exact ⟨ι1, ρ, S2, p1.rel, re1, by rw [e2]; exact q.post p1⟩
    | false => simp only [Bool.false_eq_true, if_false] at e2 ⊢; exact ⟨ι1, ρ, S2, p1.rel, re1, by rw [e2]; exact q.post p1⟩
  · cases k with
    | true => simp only [if_true] at q1 ⊢; exact ha.run pins s1 σ H1 Q I1 q1
    | false => simp only [Bool.false_eq_true, if_false] at q1 ⊢; exact hb.run pins s1 σ H1 Q I1 q1
/-! ### == and in, data alone -/
theorem opEq_data {o : Cmp} {d e r : D} {S S' : St} (ho : o = .eq ∨ o = .ne) (h : opCmp C o d e S = .ok r S') (hd : ∀ a c fs, d = .ref a → S.get a ≠ some (.ins c fs)) : ∃ b, eqD S d e = some b ∧ r = .bl (if o = .eq then b else !b) ∧ S' = S := by
  have key : (match eqD S d e with | some b => R.ok (D.bl (if o = .eq then b else !b)) S | none => .bad) = R.ok r S' → ∃ b, eqD S d e = some b ∧ r = .bl (if o = .eq then b else !b) ∧ S' = S := by
    intro h
    cases q : eqD S d e with
    | none => rw [q] at h; cases h
    | some b => rw [q] at h; cases h; exact ⟨b, rfl, rfl, rfl⟩
  rcases ho with rfl | rfl <;> simp only [opCmp] at h
  all_goals
    cases d with
    | ref a =>
      simp only at h
      split at h
      · rename_i c fs e1
        exact absurd e1 (hd a c fs rfl)
      · exact key h
    | _ => exact key h
end
section
variable {X : Cx} {g : G} {C : Cn} {pos : Pos}
theorem os_eqne (hn : NoM C.P [95, 95, 101, 113, 95, 95]) (hK : g.K = X.K) (hu : X.A.units + 70 < cLine) : OpS X g (compareOp .Eq) (opCmp C .eq) ∧ OpS X g (compareOp .NotEq) (opCmp C .ne) := by
  constructor
  all_goals
    intro pins s σ H x y v u Q I rx ry h
    obtain ⟨ι, S, d, e, r, r1, r2, h⟩ := h
  · cases q : opCmp C .eq d e S with
    | exc _ _ => rw [q] at h; exact h.elim
    | bad => rw [q] at h; exact h.elim
    | ok z S' =>
      obtain ⟨b, e1, rfl, rfl⟩ := opEq_data (.inl rfl) q (fun a c fs e0 e1 => by
        subst e0
        simp only [opCmp, e1, noM_bind hn] at q
        cases q)
      rw [q] at h
      exact (eq_data hK hu I rx ry r r1 r2 e1 Q).1 (OutD.bl h r)
  · cases q : opCmp C .ne d e S with
    | exc _ _ => rw [q] at h; exact h.elim
    | bad => rw [q] at h; exact h.elim
    | ok z S' =>
      obtain ⟨b, e1, rfl, rfl⟩ := opEq_data (.inr rfl) q (fun a c fs e0 e1 => by
        subst e0
        simp only [opCmp, e1, noM_bind hn] at q
        cases q)
      rw [q] at h
      exact (eq_data hK hu I rx ry r r1 r2 e1 Q).2 (OutD.bl h r)
theorem os_in (hn : NoM C.P [95, 95, 99, 111, 110, 116, 97, 105, 110, 115, 95, 95]) (hK : g.K = X.K) (hu : X.A.units + 70 < cLine) : OpS X g (compareOp .In) (opCmp C .inn) := by
  intro pins s σ H x y v u Q I rx ry h
  obtain ⟨ι, S, d, e, r, r1, r2, h⟩ := h
  cases e with
  | str b =>
    cases d with
    | str a =>
      rcases a with _ | ⟨c, _ | ⟨c2, r3⟩⟩
      · exact h.elim
      · rw [r1.str_inv] at rx; rw [r2.str_inv] at ry
        refine op_in_sign pins s σ H _ _ v u Q I rx ry ⟨c, toS b, rfl, rfl, ?_⟩
        have q := OutD.bl h r
        have e : decide (c ∈ (toS b).cps.toList) = decide (c ∈ b) := decide_eq_decide.mpr (by simp [toS])
        rw [e]; exact q
      · exact h.elim
    | _ => exact h.elim
  | tup ds =>
    obtain ⟨a, vs, rfl, t, q⟩ := r2.tup_inv
    simp only [opCmp] at h
    split at h
    · rename_i b e1
      exact (in_data hK hu I rx ry r r1 q (.inr t.sq) e1 Q).1 (OutD.bl h r)
    · exact h.elim
  | ref a =>
    obtain ⟨_, rfl⟩ := r2.ref_inv
    simp only [opCmp] at h
    split at h
    · rename_i lk ds e0
      split at h
      · rename_i b e1
        obtain ⟨vs, q, sq, _⟩ := r.lst e0
        exact (in_data hK hu I rx ry r r1 q (.inl sq) e1 Q).1 (OutD.bl h r)
      · exact h.elim
    · rename_i e0
      exact (r.obj _ _ e0).elim
    · rename_i c fs e0
      rw [noM_bind hn] at h
      exact h.elim
    · exact h.elim
  | _ => exact h.elim
theorem os_nin (hn : NoM C.P [95, 95, 99, 111, 110, 116, 97, 105, 110, 115, 95, 95]) (hK : g.K = X.K) (hu : X.A.units + 70 < cLine) : OpS X g (compareOp .NotIn) (opCmp C .nin) := by
  intro pins s σ H x y v u Q I rx ry h
  obtain ⟨ι, S, d, e, r, r1, r2, h⟩ := h
  cases e with
  | str b =>
    cases d with
    | str a =>
      rcases a with _ | ⟨c, _ | ⟨c2, r3⟩⟩
      · exact h.elim
      · rw [r1.str_inv] at rx; rw [r2.str_inv] at ry
        refine op_notIn_sign pins s σ H _ _ v u Q I rx ry ⟨c, toS b, rfl, rfl, ?_⟩
        have q := OutD.bl h r
        have e : decide (c ∈ (toS b).cps.toList) = decide (c ∈ b) := decide_eq_decide.mpr (by simp [toS])
        rw [e]; exact q
      · exact h.elim
    | _ => exact h.elim
  | tup ds =>
    obtain ⟨a, vs, rfl, t, q⟩ := r2.tup_inv
    simp only [opCmp] at h
    split at h
    · rename_i b e1
      exact (in_data hK hu I rx ry r r1 q (.inr t.sq) e1 Q).2 (OutD.bl h r)
    · exact h.elim
  | ref a =>
    obtain ⟨_, rfl⟩ := r2.ref_inv
    simp only [opCmp] at h
    split at h
    · rename_i lk ds e0
      split at h
      · rename_i b e1
        obtain ⟨vs, q, sq, _⟩ := r.lst e0
        exact (in_data hK hu I rx ry r r1 q (.inl sq) e1 Q).2 (OutD.bl h r)
      · exact h.elim
    · rename_i e0
      exact (r.obj _ _ e0).elim
    · rename_i c fs e0
      rw [noM_bind hn] at h
      exact h.elim
    · exact h.elim
  | _ => exact h.elim
end
/-! ### sides -/
def notSet : Expr → Bool
  | .Set _ _ _ => false
  | _ => true
def notSlice : Expr → Bool
  | .Slice _ _ _ _ => false
  | _ => true
def plainT : Expr → Bool
  | .UnaryOp .Not _ _ => false
  | .BoolOp _ _ _ => false
  | .IfExp _ _ _ _ => false
  | .Compare _ _ _ _ => false
  | _ => true
theorem notSet_folded {e : Expr} (h : notSet e = true) (env : PySem.Env) (x : Value) : foldedSetIterable e env x = pure x := by
  cases e <;> first | rfl | cases h
theorem notSet_marks {op : CmpOp} {e : Expr} (h : notSet e = true) : behindInMarks op e = false := by
  cases e <;> first | rfl | cases h
theorem notSet_last {op op' : CmpOp} {b c : Expr} (h : notSet c = true) : lastMarks [op, op'] [b, c] = false := by
  show lastMarks [op'] [c] = false
  show behindInMarks op' c = false
  exact notSet_marks h
theorem plain_true {e : Expr} (h : plainT e = true) (env : PySem.Env) (whole : Sem Value) : isTrue e env whole = (do let v ← whole; standAt e.pos; holding [v] (truthy v)) := by
  cases e with
  | UnaryOp op x p => cases op <;> first | rfl | cases h
  | BoolOp _ _ _ => cases h
  | IfExp _ _ _ _ => cases h
  | Compare _ _ _ _ => cases h
  | _ => rfl
theorem plainIx_of {e : Expr} (h : notSlice e = true) : PlainIx e := by
  intro o i
  cases e <;> first | rfl | cases h
end Lm

/-! The checker: an own tree against the text's tree; and soundness for all that it lets by. -/
namespace Lm
open PySem PySem.Spec PyProof.Rows L2

structure Tab where
  fn : List (Nat × Str)
  cs : List (Txt × D)
  bl : List Str
  ty : List Ty
def vis (sc : Scope) (x : Str) : Bool := match sc.names.lookup x with
  | some .local => true
  | some .cell => true
  | some .free => true
  | _ => false
def glo (sc : Scope) (x : Str) : Bool := decide (sc.names.lookup x = some .globalImplicit)
def lcl (st : Scope) (x : Str) : Bool := match st.names.lookup x with
  | some .local => true
  | some .cell => true
  | _ => false
def okName (x : Str) : Bool := !(x == ("__debug__" : Str)) && !(x == ("__classdict__" : Str)) && decide (x ≠ "__name__")
def binOp : Bin → Option Operator
  | .add => some .Add | .sub => some .Sub | .mul => some .Mult | .fdiv => some .FloorDiv | .mod => some .Mod | .pow => some .Pow | _ => none
def cmpOp : Cmp → Option CmpOp
  | .eq => some .Eq | .ne => some .NotEq | .lt => some .Lt | .le => some .LtE | .gt => some .Gt | .ge => some .GtE | .inn => some .In | .nin => some .NotIn | _ => none
/-- the built-ins by name -/
def biName : Bi → Option Str
  | .len => some "len" | .int => some "int" | .list => some "list" | .tuple => some "tuple" | .all => some "all" | .any => some "any"
  | _ => none
def bmName : Bm → Option Str
  | .append => some "append" | .join => some "join" | _ => none
/-- a class as it is named -/
def chkTy (T : Tab) (sc : Scope) (y : Ty) (c : Expr) : Bool := match c with
  | .Name x _ => glo sc x && okName x && T.ty.contains y && T.bl.contains x && (match y with
    | .tstr => decide (x = "str") | .tint => decide (x = "int") | .tbool => decide (x = "bool") | .tlist => decide (x = "list") | .ttuple => decide (x = "tuple") | .tdict => decide (x = "dict")
    | _ => false)
  | _ => false
def chkTys (T : Tab) (sc : Scope) : List Ty → List Expr → Bool
  | [], [] => true
  | y :: ys, c :: cs => chkTy T sc y c && chkTys T sc ys cs
  | _, _ => false
/-- the names of a comprehension's own slots -/
def ownN (N : List Str) (own : List Nat) : List (Str × Nat) := own.map fun i => (N.getD i "", i)
/-- a block's scope, seen from the scope around -/
def relS (scope sc : Scope) : Scope := { scope with names := scope.names.map fun (n, k) => if (k == .free && sc.kind == .function && sc.names.lookup n == some .cell) then (n, .cell) else (n, k) }
mutual
def chkTg (N : List Str) (st : Scope) : Tg → Expr → Bool
  | .n i, e => match e with
    | .Name x _ => decide (N[i]? = some x) && lcl st x
    | _ => false
  | .t ts, e => match e with
    | .Tuple es _ _ => chkTgs N st ts es
    | _ => false
def chkTgs (N : List Str) (st : Scope) : Tgs → List Expr → Bool
  | .nil, es => match es with
    | [] => true
    | _ => false
  | .cons t r, es => match es with
    | e :: es => chkTg N st t e && chkTgs N st r es
    | _ => false
end
mutual
def chkE (T : Tab) (N : List Str) : E → Scope → Expr → Bool
  | .non, _, e => match e with
    | .Constant .none _ _ => true
    | _ => false
  | .bl b, _, e => match e with
    | .Constant (.bool c) _ _ => b == c
    | _ => false
  | .int i, _, e => match e with
    | .Constant (.int j) _ _ => decide (i = j)
    | _ => false
  | .str s, _, e => match e with
    | .Constant (.str x) _ _ => decide (x = toS s)
    | _ => false
  | .var i, sc, e => match e with
    | .Name x _ => decide (N[i]? = some x) && vis sc x && okName x
    | _ => false
  | .glob t d, sc, e => match e with
    | .Name x _ => decide (x = toS t) && glo sc x && okName x && decide ((t, d) ∈ T.cs)
    | _ => false
  | .tup es, sc, e => match e with
    | .Tuple xs _ _ => noStars xs && chkEs T N es sc xs
    | _ => false
  | .lst es, sc, e => match e with
    | .List xs _ => noStars xs && chkEs T N es sc xs
    | _ => false
  | .bin o a b, sc, e => match e with
    | .BinOp x op y _ => decide (binOp o = some op) && chkE T N a sc x && chkE T N b sc y
    | _ => false
  | .cmp o a b, sc, e => match e with
    | .Compare x ops ys _ => match ops, ys with
      | [op], [y] => match o with
        | .isn => (match op with | .Is => true | _ => false) && (match y with | .Constant .none _ _ => true | _ => false) && (match b with | .non => true | _ => false) && chkE T N a sc x
        | .isnn => (match op with | .IsNot => true | _ => false) && (match y with | .Constant .none _ _ => true | _ => false) && (match b with | .non => true | _ => false) && chkE T N a sc x
        | o => decide (cmpOp o = some op) && notSet y && chkE T N a sc x && chkE T N b sc y
      | _, _ => false
    | _ => false
  | .cmp2 o o' a b c, sc, e => match e with
    | .Compare x ops ys _ => match ops, ys with
      | [op, op'], [y, z] => decide (cmpOp o = some op) && decide (cmpOp o' = some op') && notSet z && chkE T N a sc x && chkE T N b sc y && chkE T N c sc z
      | _, _ => false
    | _ => false
  | .boo c es, sc, e => match e with
    | .BoolOp op xs _ => decide (op = bop c) && chkBo T N es sc xs
    | _ => false
  | .nt a, sc, e => match e with
    | .UnaryOp op x _ => (match op with | .Not => true | _ => false) && chkE T N a sc x
    | _ => false
  | .neg a, sc, e => match e with
    | .UnaryOp op x _ => (match op with | .USub => true | _ => false) && chkE T N a sc x
    | _ => false
  | .ite c a b, sc, e => match e with
    | .IfExp x y z _ => chkE T N c sc x && chkE T N a sc y && chkE T N b sc z
    | _ => false
  | .ix a i, sc, e => match e with
    | .Subscript x y _ => notSlice y && chkE T N a sc x && chkE T N i sc y
    | _ => false
  | .sl a lo hi, sc, e => match e with
    | .Subscript x y _ => match y with
      | .Slice l h s _ => (match s with | none => true | _ => false) && chkE T N a sc x && chkO T N lo sc l && chkO T N hi sc h
      | _ => false
    | _ => false
  | .cal f es, sc, e => match e with
    | .Call fn xs ks _ => match fn with
      | .Name x _ => decide ((f, x) ∈ T.fn) && glo sc x && okName x && ks.isEmpty && noStars xs && chkEs T N es sc xs
      | _ => false
    | _ => false
  | .bi b es, sc, e => match e with
    | .Call fn xs ks _ => match fn with
      | .Name x _ => decide (biName b = some x) && T.bl.contains x && glo sc x && okName x && ks.isEmpty && noStars xs && !xs.isEmpty && chkEs T N es sc xs
      | _ => false
    | _ => false
  | .isi a ts, sc, e => match e with
    | .Call fn xs ks _ => match fn, xs with
      | .Name x _, [y, c] => decide (x = "isinstance") && T.bl.contains x && glo sc x && ks.isEmpty && notStar y && notStar c && chkE T N a sc y && (match ts with
          | [t] => chkTy T sc t c
          | ts => match c with
            | .Tuple cs _ _ => decide (ts.length ≤ 100) && chkTys T sc ts cs
            | _ => false)
      | _, _ => false
    | _ => false
  | .bm m o es, sc, e => match e with
    | .Call fn xs ks p => match fn with
      | .Attribute y name ap => decide (bmName m = some name) && notSuper y && (ap.endLine == p.line) && ks.isEmpty && noStars xs && !xs.isEmpty && decide (xs.length < 29) && chkE T N o sc y && chkEs T N es sc xs
      | _ => false
    | _ => false
  | .lc el t i ifs own, sc, e => match e with
    | .ListComp x gs scope _ => match gs with
      | [c] => decide (c.is_async = 0) && notSet c.iter && blkC N sc scope (ownN N own) && chkTg N scope t c.target && (tslots t).all (own.contains ·) && chkI T N i sc c.target c.iter && chkIfs T N ifs (relS scope sc) c.ifs && chkE T N el (relS scope sc) x
      | _ => false
    | _ => false
  | _, _, _ => false
def chkEs (T : Tab) (N : List Str) : Es → Scope → List Expr → Bool
  | .nil, _, xs => xs.isEmpty
  | .cons e r, sc, xs => match xs with
    | x :: xs => notStar x && chkE T N e sc x && chkEs T N r sc xs
    | _ => false
  | .star _ _, _, _ => false
def chkBo (T : Tab) (N : List Str) : Es → Scope → List Expr → Bool
  | .nil, _, _ => false
  | .star _ _, _, _ => false
  | .cons e r, sc, xs => match xs with
    | x :: xs => chkE T N e sc x && (match r with
      | .nil => xs.isEmpty
      | r => chkBo T N r sc xs)
    | _ => false
def chkIfs (T : Tab) (N : List Str) : Es → Scope → List Expr → Bool
  | .nil, _, xs => xs.isEmpty
  | .cons e r, sc, xs => (match r with | .nil => true | _ => false) && (match xs with
    | [x] => chkE T N e sc x
    | _ => false)
  | .star _ _, _, _ => false
def chkO (T : Tab) (N : List Str) : Oe → Scope → Option Expr → Bool
  | .no, _, x => x.isNone
  | .so e, sc, x => match x with
    | some x => chkE T N e sc x
    | none => false
def chkI (T : Tab) (N : List Str) : Lm.It → Scope → Expr → Expr → Bool
  | .val e, sc, _, x => chkE T N e sc x
  | .rng1 a, sc, _, x => match x with
    | .Call fn xs ks _ => match fn, xs with
      | .Name f _, [y] => decide (f = "range") && T.bl.contains f && glo sc f && ks.isEmpty && notStar y && chkE T N a sc y
      | _, _ => false
    | _ => false
  | .rng2 a b, sc, _, x => match x with
    | .Call fn xs ks _ => match fn, xs with
      | .Name f _, [y, z] => decide (f = "range") && T.bl.contains f && glo sc f && ks.isEmpty && notStar y && notStar z && chkE T N a sc y && chkE T N b sc z
      | _, _ => false
    | _ => false
  | .zip a b, sc, tg, x => (match tg with | .Tuple _ _ _ => true | _ => false) && (match x with
    | .Call fn xs ks _ => match fn, xs with
      | .Name f _, [y, z] => decide (f = "zip") && T.bl.contains f && glo sc f && ks.isEmpty && notStar y && notStar z && chkE T N a sc y && chkE T N b sc z
      | _, _ => false
    | _ => false)
  | _, _, _, _ => false
end

/-! ### statements -/
/-- a, b = x, y: which names are stored from the right -/
def swapN (kind : Str → Option NameKind) (ts vs : List Expr) : Option (Option (List Str)) :=
  if !(ts.length == 2 || ts.length == 3) || vs.length != ts.length then some none
  else if (vs.any fun | .Starred .. => true | _ => false) then some none
  else
    let line := (ts.head?.map (·.pos.line)).getD 0
    let names := ts.filterMap fun
      | .Name id pos => if kind id == some .local && pos.line == line then some id else none
      | _ => none
    if names.length != ts.length || names.eraseDups.length != names.length then some none
    else if vs.all (foldedForSure 8) then some none
    else if vs.all (constantsAlone 8) then none
    else some (some names)
theorem swap_of {ts vs : List Expr} {k k2 : Nat} {p p2 : Pos} {env : PySem.Env} {r : Option (List Str)} (hb : env.blockKind = .function) (h : swapN env.kindOf ts vs = some r) : swappedStores [.Tuple ts k p] (.Tuple vs k2 p2) env = pure r := by
  have e : swappedStores [.Tuple ts k p] (.Tuple vs k2 p2) env = (match swapN env.kindOf ts vs with | some r => pure r | none => unsupported "assign.tuple-of-constant-expressions:order-of-the-stores") := by
    unfold swapN swappedStores
    simp only [hb]
    by_cases h1 : (!(ts.length == 2 || ts.length == 3) || vs.length != ts.length) = true
    · rw [if_pos h1]
      have : (!(ts.length == 2 || ts.length == 3) || vs.length != ts.length || ScopeKind.function != ScopeKind.function) = true := by rw [h1]; rfl
      rw [if_pos this]
    · rw [if_neg h1]
      have h1' : ¬ (!(ts.length == 2 || ts.length == 3) || vs.length != ts.length || ScopeKind.function != ScopeKind.function) = true := by
        simpa using h1
      rw [if_neg h1']
      split
      · rename_i h2
        split
        · rename_i h3
          split at h3
          · cases h3; rfl
          · rename_i h4; exact absurd h2 h4
        · rename_i h3
          split at h3
          · cases h3
          · rename_i h4; exact absurd h2 h4
      · rename_i h2
        split
        · rename_i h3
          split
          · rename_i h5
            split at h5
            · rename_i h4; exact absurd h4 h2
            · split at h5
              · cases h5; rfl
              · rename_i h6; exact absurd h3 h6
          · rename_i h5
            split at h5
            · cases h5
            · split at h5
              · cases h5
              · rename_i h6; exact absurd h3 h6
        · rename_i h3
          split
          · rename_i h4
            split
            · rename_i h5
              split at h5
              · rename_i h6; exact absurd h6 h2
              · split at h5
                · rename_i h6; exact absurd h6 h3
                · cases h5; rfl
            · rename_i h5
              split at h5
              · cases h5
              · split at h5
                · cases h5
                · cases h5
          · rename_i h4
            split
            · rename_i h4'
              split
              · rename_i h5
                split at h5
                · rename_i h6; exact absurd h6 h2
                · split at h5
                  · rename_i h6; exact absurd h6 h3
                  · cases h5
              · rfl
            · rename_i h4'
              split
              · rename_i h5
                split at h5
                · rename_i h6; exact absurd h6 h2
                · split at h5
                  · rename_i h6; exact absurd h6 h3
                  · cases h5; rfl
              · rename_i h5
                split at h5
                · cases h5
                · split at h5
                  · cases h5
                  · cases h5
  rw [e, h]

mutual
def chkS (T : Tab) (N : List Str) (sc : Scope) : Lm.S → Stmt → Bool
  | .asg t e, s => match s with
    | .Assign tgs v p => match tgs with
      | [tg] => match t with
        | .n i => chkTg N sc (.n i) tg && (match v with
          | .ListComp el gs scope p2 => chkE T N e sc (.ListComp el gs scope p2) && (match tg with
            | .Name x px => (if (decide (sc.names.lookup x = some .local) && px.line == p2.line && !(scope.names.any fun (n, k) => n == x && (k == .local || k == .cell))) = true then (match e with | .lc _ _ _ _ _ => true | _ => false) else true)
            | _ => false)
          | v => notComp v && chkE T N e sc v)
        | .t ts => match tg with
          | .Tuple es _ _ => chkTgs N sc ts es && chkE T N e sc v && (match v with
            | .Tuple vs _ _ => (match swapN (fun x => sc.names.lookup x) es vs with
              | some none => true
              | some (some _) => (match es, vs, ts, e with
                | [.Name x _, .Name y _], [_, _], .cons (.n i) (.cons (.n j) .nil), .tup _ => decide (i ≠ j) && decide (sc.names.lookup x = some .local) && decide (sc.names.lookup y = some .local) && decide (swapN (fun x => sc.names.lookup x) es vs = some (some [x, y]))
                | [.Name x _, .Name y _, .Name z _], [_, _, _], .cons (.n i) (.cons (.n j) (.cons (.n l) .nil)), .tup _ => decide (i ≠ j) && decide (i ≠ l) && decide (j ≠ l) && decide (sc.names.lookup x = some .local) && decide (sc.names.lookup y = some .local) && decide (sc.names.lookup z = some .local) && decide (swapN (fun x => sc.names.lookup x) es vs = some (some [x, y, z]))
                | _, _, _, _ => false)
              | none => false)
            | v => notComp v)
          | _ => false
      | _ => false
    | _ => false
  | .asgS a i e, s => match s with
    | .Assign tgs v _ => match tgs with
      | [.Subscript x y _] => notSlice y && notComp v && chkE T N a sc x && chkE T N i sc y && chkE T N e sc v
      | _ => false
    | _ => false
  | .aug i o e, s => match s with
    | .AugAssign tg op v _ => match tg with
      | .Name x _ => (match o, op with | .add, .Add => true | _, _ => false) && chkTg N sc (.n i) (.Name x ⟨0, 0, 0, 0⟩) && chkE T N e sc v
      | _ => false
    | _ => false
  | .ex e, s => match s with
    | .Expr v _ => notComp v && chkE T N e sc v
    | _ => false
  | .ret e, s => match s with
    | .Return (some v) _ => chkE T N e sc v
    | _ => false
  | .retN, s => match s with
    | .Return none _ => true
    | _ => false
  | .iff c a b, s => match s with
    | .If x p q _ => chkE T N c sc x && chkSs T N sc a p && chkSs T N sc b q
    | _ => false
  | .whl c b, s => match s with
    | .While x p q _ => q.isEmpty && chkE T N c sc x && chkSs T N sc b p
    | _ => false
  | .fr t i b, s => match s with
    | .For tg x p q _ => q.isEmpty && notSet x && chkTg N sc t tg && chkI T N i sc tg x && chkSs T N sc b p
    | _ => false
  | .pas, s => match s with
    | .Pass _ => true
    | _ => false
  | _, _ => false
def chkSs (T : Tab) (N : List Str) (sc : Scope) : Ss → List Stmt → Bool
  | .nil, ss => ss.isEmpty
  | .cons s r, ss => match ss with
    | x :: xs => chkS T N sc s x && chkSs T N sc r xs
    | _ => false
end
end Lm

/-! Soundness of what the checker lets by. -/
namespace Lm
open PySem PySem.Spec PyProof.Rows L2

/-- what stands around a body or a comprehension's block -/
structure GX (T : Tab) (C : Cn) (g : G) (k : Nat) (N : List Str) (sc st : Scope) (X : Cx) : Prop where
  hK : g.K = X.K
  hN : X.N = N
  nd : N.Nodup
  hs : X.env.scope = sc
  kd : sc.kind = .function
  calm : X.calm = true
  room : Room k X.A
  xe : PassesOwn (model X.prog X.w) X.A X.env X.xe
  hst : ∀ x, lcl st x = true → Loc X.env.scope x ∧ (X.fn x = true ∨ X.env.scope.names.lookup x = some .local)
  fn : ∀ p ∈ T.fn, FnF X g C k p.1 p.2
  con : ∀ p ∈ T.cs, ConOk g X.mg p
  bl : ∀ x ∈ T.bl, X.mg x = none
  ty : ∀ y ∈ T.ty, ∀ dt : DT, (∀ c, dt = .own c → C.P.cl c ≠ none) → TyOk g C.P dt y
  ci : ∀ c, C.P.cl c ≠ none → ClsI g.K (g.cad c)
  neq : NoM C.P [95, 95, 101, 113, 95, 95]
  nin : NoM C.P [95, 95, 99, 111, 110, 116, 97, 105, 110, 115, 95, 95]
  nix : NoM C.P [95, 95, 103, 101, 116, 105, 116, 101, 109, 95, 95]
  nst : NoM C.P [95, 95, 115, 101, 116, 105, 116, 101, 109, 95, 95]

theorem vis_of {sc : Scope} {x : Str} (h : vis sc x = true) : Vis sc x := by
  unfold vis at h
  split at h
  · rename_i e; exact .inl e
  · rename_i e; exact .inr (.inl e)
  · rename_i e; exact .inr (.inr e)
  · cases h
theorem okName_of {x : Str} (h : okName x = true) : (x == ("__debug__" : Str)) = false ∧ (x == ("__classdict__" : Str)) = false ∧ x ≠ "__name__" := by
  unfold okName at h
  simp only [Bool.and_eq_true, Bool.not_eq_true', decide_eq_true_eq] at h
  exact ⟨h.1.1, h.1.2, h.2⟩
theorem glo_of {X : Cx} {sc : Scope} {x : Str} (hs : X.env.scope = sc) (h : glo sc x = true) : Gl X x := by
  unfold glo at h
  have h := of_decide_eq_true h
  show X.env.scope.names.lookup x = some .globalImplicit
  rw [hs]; exact h
theorem room_hu {k : Nat} {A : Around} (h : Room k A) : A.units + 70 < cLine := by have := h.un; omega

theorem relabel_eq (scope : Scope) (env : PySem.Env) : relabel scope env = relS scope env.scope := rfl
theorem lookup_map {f : Str × NameKind → Str × NameKind} (hf : ∀ p, (f p).1 = p.1) {k : NameKind} (hk : ∀ n, f (n, k) = (n, k)) {x : Str} : ∀ {l : List (Str × NameKind)}, l.lookup x = some k → (l.map f).lookup x = some k
  | [], h => by cases h
  | (n, j) :: r, h => by
    rw [List.map_cons]
    by_cases e : x = n
    · subst e
      rw [List.lookup_cons_self] at h
      cases h
      rw [hk, List.lookup_cons_self]
    · have e' : (x == n) = false := by simpa using e
      rw [List.lookup_cons, e'] at h
      have e2 : (x == (f (n, j)).1) = false := by rw [hf]; exact e'
      have : (f (n, j) :: List.map f r).lookup x = (List.map f r).lookup x := by
        rw [show f (n, j) = ((f (n, j)).1, (f (n, j)).2) from rfl, List.lookup_cons, e2]
      rw [this]
      exact lookup_map hf hk h
section
variable {T : Tab} {C : Cn} {g : G} {k : Nat} {N : List Str} {sc st : Scope} {X : Cx}
theorem GX.blk (G : GX T C g k N sc st X) {scope : Scope} {own : List (Str × Nat)} (hk : scope.kind = .function) (s : Shared) (H : Hp) (A : Addr) (cl : List (Str × Addr)) (fp : List Addr) :
    GX T C g k N (relS scope sc) scope (X.blk s H scope (compEnvC scope cl A X.env) fp) where
  hK := G.hK
  hN := G.hN
  nd := G.nd
  hs := by show relabel scope X.env = _; rw [relabel_eq, G.hs]
  kd := hk
  calm := G.calm
  room := G.room
  xe := PassesOwn.never
  hst := fun x hx => by
    unfold lcl at hx
    have eq : (X.blk s H scope (compEnvC scope cl A X.env) fp).env.scope = relS scope X.env.scope := by show relabel scope X.env = _; rw [relabel_eq]
    split at hx
    · rename_i e
      have e2 : (relS scope X.env.scope).names.lookup x = some .local := lookup_map (fun p => by obtain ⟨n, k⟩ := p; show (if _ then _ else _ : Str × NameKind).1 = n; split <;> rfl) (fun n => rfl) e
      rw [eq]
      exact ⟨.inl e2, .inr e2⟩
    · rename_i e
      have e2 : (relS scope X.env.scope).names.lookup x = some .cell := lookup_map (fun p => by obtain ⟨n, k⟩ := p; show (if _ then _ else _ : Str × NameKind).1 = n; split <;> rfl) (fun n => rfl) e
      rw [eq]
      refine ⟨.inr e2, .inl ?_⟩
      show (scope.names.lookup x == some .cell) = true
      rw [e]; rfl
    · cases hx
  fn := fun p hp => ⟨(G.fn p hp).ex⟩
  con := G.con
  bl := G.bl
  ty := G.ty
  ci := G.ci
  neq := G.neq
  nin := G.nin
  nix := G.nix
  nst := G.nst

/-! ### targets -/
mutual
theorem sndTg (G : GX T C g k N sc st X) : ∀ (t : Tg) (e : Expr), chkTg N st t e = true → PG X e (rdG g t) ∧ ∀ es env, (assignEach (e :: es) env) = (false, assign e env) :: assignEach es env
  | .n i, e, h => by
    unfold chkTg at h
    split at h
    · rename_i x p
      rw [Bool.and_eq_true] at h
      have hs := G.hst x h.2
      exact ⟨snd_gn (G.hN ▸ G.nd) (G.hN ▸ of_decide_eq_true h.1) hs.1 hs.2, fun _ _ => rfl⟩
    · cases h
  | .t ts, e, h => by
    unfold chkTg at h
    split at h
    · rename_i es kk p
      obtain ⟨h1, h2⟩ := sndTgs G ts es h
      refine ⟨snd_gt G.hK G.calm h1 ?_ ?_, fun _ _ => rfl⟩
      · rw [(h2 X.env).1, List.length_map, (h2 X.env).2]
      · rw [(h2 X.env).1]
        induction es with
        | nil => rfl
        | cons e es ih => simp [List.findIdx?_cons, List.findIdx?_eq_none_iff]
    · cases h
theorem sndTgs (G : GX T C g k N sc st X) : ∀ (t : Tgs) (es : List Expr), chkTgs N st t es = true → PGs X es (rdGs g t) ∧ ∀ env, assignEach es env = es.map (fun e => (false, assign e env)) ∧ es.length = tlen t
  | .nil, es, h => by
    unfold chkTgs at h
    split at h
    · exact ⟨snd_gs0, fun _ => ⟨rfl, rfl⟩⟩
    · cases h
  | .cons t r, es, h => by
    unfold chkTgs at h
    split at h
    · rename_i e es
      rw [Bool.and_eq_true] at h
      obtain ⟨h1, h2⟩ := sndTg G t e h.1
      obtain ⟨h3, h4⟩ := sndTgs G r es h.2
      refine ⟨snd_gs1 h1 h3 (by rw [h2]; rfl), fun env => ⟨by rw [h2, (h4 env).1]; rfl, by rw [List.length_cons, (h4 env).2]; rfl⟩⟩
    · cases h
end

/-! ### classes named -/
theorem sndTy (G : GX T C g k N sc st X) {y : Ty} {c : Expr} (h : chkTy T sc y c = true) : PE X c (tC (tyV g y)) ∧ y ∈ T.ty ∧ notStar c = true := by
  unfold chkTy at h
  split at h
  · rename_i x p
    simp only [Bool.and_eq_true] at h
    obtain ⟨⟨⟨⟨h1, h2⟩, h3⟩, h4⟩, h5⟩ := h
    have hg := glo_of G.hs h1
    obtain ⟨hd, _, hn⟩ := okName_of h2
    have hm : X.mg x = none := G.bl x (List.contains_iff_mem.mp h4)
    refine ⟨?_, List.contains_iff_mem.mp h3, rfl⟩
    split at h5
    · have e := of_decide_eq_true h5; subst e; exact pe_bltn hg hm boot_str rfl hn hd
    · have e := of_decide_eq_true h5; subst e; exact pe_bltn hg hm boot_int rfl hn hd
    · have e := of_decide_eq_true h5; subst e; exact pe_bltn hg hm boot_bool rfl hn hd
    · have e := of_decide_eq_true h5; subst e; exact pe_bltn hg hm boot_list rfl hn hd
    · have e := of_decide_eq_true h5; subst e; exact pe_bltn hg hm boot_tuple rfl hn hd
    · have e := of_decide_eq_true h5; subst e; exact pe_bltn hg hm boot_dict rfl hn hd
    · cases h5
  · cases h

theorem snd_ix {a i : Expr} {t u : E} {pos : Pos} (hn : NoM C.P [95, 95, 103, 101, 116, 105, 116, 101, 109, 95, 95]) (hK : g.K = X.K) (ha : PE X a (rdE g C t)) (hi : PE X i (rdE g C u)) (hp : PlainIx i) : PE X (.Subscript a i pos) (rdE g C (.ix t u)) := by
  refine ⟨fun pins s σ H Q I ⟨ι, ρ, S, r, re, h⟩ => ?_⟩
  have h0 := h
  rw [evE] at h
  obtain ⟨x, S1, e1, h⟩ := h.bnd
  obtain ⟨y, S2, e2, h⟩ := h.bnd
  refine (pe_ix (pos := pos) (ix_data (C := C) hK) ha hi hp).run pins s σ H Q I (rdE_of r re e1 fun ι1 v H1 p1 re1 r1 => rdE_of p1.rel re1 e2 fun ι2 u H2 p2 re2 r2 => ⟨ι2, S2, x, y, p2.rel, p2.d r1, r2, ?_, h.post (p1.trans p2)⟩)
  intro a ea
  subst ea
  simp only [opIx] at h
  split at h
  · rename_i lk ds e3; exact ⟨lk, ds, e3⟩
  · rename_i e3; exact (p2.rel.obj _ _ e3).elim
  · rw [noM_bind hn] at h
    exact h.elim
  · exact h.elim
theorem kitAny_of {P : Prog} {dt : DT} : ∀ {ts : List Ty}, (∀ y ∈ ts, TyOk g P dt y) → PySem.W.kitAny g.K (dtV g dt) (ts.map (tyU g)) = some (ts.any (isDT P dt))
  | [], _ => rfl
  | y :: ts, h => by
    have h1 := h y List.mem_cons_self
    unfold TyOk at h1
    rw [List.map_cons, PySem.W.kitAny, h1, List.any_cons]
    cases isDT P dt y with
    | true => rfl
    | false => exact kitAny_of fun y hy => h y (List.mem_cons_of_mem _ hy)
theorem sndTys (G : GX T C g k N sc st X) : ∀ {ts : List Ty} {cs : List Expr}, chkTys T sc ts cs = true → PA X cs (fun _ H Q => Q (ts.map (tyV g)) H) ∧ (∀ y ∈ ts, y ∈ T.ty)
  | [], [], _ => ⟨pa_nil.weak fun σ H Q h => h, fun y hy => absurd hy (by simp)⟩
  | [], _ :: _, h => by simp [chkTys] at h
  | _ :: _, [], h => by simp [chkTys] at h
  | y :: ts, c :: cs, h => by
    rw [chkTys, Bool.and_eq_true] at h
    obtain ⟨h1, h2, h3⟩ := sndTy G h.1
    obtain ⟨h4, h5⟩ := sndTys G h.2
    refine ⟨(pa_cons h1 h4 (starEach_ne h3 cs X.env)).weak fun σ H Q q => q, fun z hz => ?_⟩
    rcases List.mem_cons.mp hz with e | hz
    · rw [e]; exact h2
    · exact h5 z hz
theorem paired_tys : ∀ ts : List Ty, Paired ClsV (ts.map (tyV g)) (ts.map (tyU g))
  | [] => .nil
  | t :: ts => .cons (tyV_cls t) (paired_tys ts)
theorem snd_isiN {p p2 pos : Pos} {kk : Nat} {e : Expr} {cs : List Expr} {t : E} {ts : List Ty} (G : GX T C g k N sc st X) (hg : Gl X "isinstance") (hm : X.mg "isinstance" = none) (hs : notStar e = true) (he : PE X e (rdE g C t)) (hl : ts.length ≤ 100) (hc : chkTys T sc ts cs = true) :
    PE X (.Call (.Name "isinstance" p) [e, .Tuple cs kk p2] [] pos) (rdE g C (.isi t ts)) := by
  obtain ⟨hA, hT⟩ := sndTys G hc
  have hK := G.hK
  refine (pe_callB (pos := pos) (p := p) call_isiT hg hm PyProof.Rows.boot_isinstance (pa_cons he (pa_cons (pe_tup (pos := p2) (x1 := kk) hA) pa_nil) (starEach_ne hs [.Tuple cs kk p2] X.env)) (by decide) (by decide) (starEach_ne hs [.Tuple cs kk p2] X.env) rfl).weak fun σ H Q ⟨ι, ρ, S, r, re, q⟩ => ?_
  rw [evE] at q
  obtain ⟨d, S1, e1, q⟩ := q.bnd
  refine rdE_of r re e1 fun ι1 v H1 p1 re1 r1 => ?_
  have q := q.post p1
  split at q
  · rename_i dt e2
    have hown : ∀ c, dt = .own c → C.P.cl c ≠ none := fun c ec => by
      subst ec
      unfold dty at e2
      split at e2 <;> try (cases e2; done)
      split at e2 <;> try (cases e2; done)
      split at e2
      · rename_i e3
        cases e2
        intro z
        rw [z] at e3
        cases e3
      · cases e2
    refine ⟨?_, fun tp htp => ?_⟩
    · rw [List.length_map]; unfold sizeLine; omega
    have pf := p1.rel.fresh (u := .tup (ts.map (tyV g))) htp
    refine ⟨v, tp, ts.map (tyV g), dtV g dt, ts.map (tyU g), ts.any (isDT C.P dt), rfl, upd_same, paired_tys ts, ?_, ?_, ?_⟩
    · exact hK ▸ tyX_of (fun c ec => G.ci c (hown c ec)) pf.rel (pf.d r1) e2
    · rw [← hK]; exact kitAny_of fun y hy => G.ty y (hT y hy) dt hown
    · exact OutD.bl (q.post pf) pf.rel
  · exact q.elim

/-! ### expressions -/
theorem op_snd (G : GX T C g k N sc st X) {o : Bin} {op : Operator} (h : binOp o = some op) : OpS X g (binaryOp op) (opBin o) := by
  cases o <;> simp only [binOp, Option.some.injEq] at h <;> first | (subst h) | (cases h; done)
  · exact os_add G.hK
  · exact os_sub
  · exact os_mul
  · exact os_fdiv
  · exact os_mod
  · exact os_pow
theorem cmp_snd (G : GX T C g k N sc st X) {o : Cmp} {op : CmpOp} (h : cmpOp o = some op) : OpS X g (compareOp op) (opCmp C o) := by
  have hu := room_hu G.room
  cases o <;> simp only [cmpOp, Option.some.injEq] at h <;> first | (subst h) | (cases h; done)
  · exact (os_eqne G.neq G.hK hu).1
  · exact (os_eqne G.neq G.hK hu).2
  · exact os_lt
  · exact os_le
  · exact os_gt
  · exact os_ge
  · exact os_in G.nin G.hK hu
  · exact os_nin G.nin G.hK hu
theorem both (hK : g.K = X.K) {e : Expr} {t : E} (h : PE X e (rdE g C t)) (hp : plainT e = true) : PE X e (rdE g C t) ∧ PT X e (rdT g C t) :=
  ⟨h, snd_pt hK h (plain_true hp X.env)⟩
theorem map_ownN (N : List Str) (own : List Nat) : (ownN N own).map (·.2) = own := by
  unfold ownN
  rw [List.map_map]
  exact List.map_id' own
end
section
variable {T : Tab} {C : Cn} {g : G} {k : Nat} {N : List Str}
mutual
theorem sndE : ∀ (t : E) (sc st : Scope) (X : Cx) (e : Expr), GX T C g k N sc st X → chkE T N t sc e = true → PE X e (rdE g C t) ∧ PT X e (rdT g C t)
  | .non, sc, st, X, e, G, h => by
    unfold chkE at h
    split at h
    · exact both G.hK snd_non rfl
    · cases h
  | .bl b, sc, st, X, e, G, h => by
    unfold chkE at h
    split at h
    · have e := beq_iff_eq.mp h; subst e; exact both G.hK snd_bl rfl
    · cases h
  | .int i, sc, st, X, e, G, h => by
    unfold chkE at h
    split at h
    · have e := of_decide_eq_true h; subst e; exact both G.hK snd_int rfl
    · cases h
  | .str s, sc, st, X, e, G, h => by
    unfold chkE at h
    split at h
    · exact both G.hK (snd_str (of_decide_eq_true h)) rfl
    · cases h
  | .var i, sc, st, X, e, G, h => by
    unfold chkE at h
    split at h
    · rename_i x p
      simp only [Bool.and_eq_true] at h
      obtain ⟨⟨h1, h2⟩, h3⟩ := h
      obtain ⟨hd, hc, _⟩ := okName_of h3
      exact both G.hK (snd_var (by rw [G.hN]; exact of_decide_eq_true h1) (by rw [G.hs]; exact vis_of h2) hd hc) rfl
    · cases h
  | .glob t d, sc, st, X, e, G, h => by
    unfold chkE at h
    split at h
    · simp only [Bool.and_eq_true] at h
      obtain ⟨⟨⟨h1, h2⟩, h3⟩, h4⟩ := h
      obtain ⟨hd, _, _⟩ := okName_of h3
      exact both G.hK (snd_glob (of_decide_eq_true h1) (glo_of G.hs h2) (G.con _ (of_decide_eq_true h4)) hd) rfl
    · cases h
  | .tup es, sc, st, X, e, G, h => by
    unfold chkE at h
    split at h
    · rw [Bool.and_eq_true] at h
      exact both G.hK (snd_tup (sndEs es sc st X _ G h.2)) rfl
    · cases h
  | .lst es, sc, st, X, e, G, h => by
    unfold chkE at h
    split at h
    · rw [Bool.and_eq_true] at h
      exact both G.hK (snd_lst (sndEs es sc st X _ G h.2)) rfl
    · cases h
  | .bin o a b, sc, st, X, e, G, h => by
    unfold chkE at h
    split at h
    · simp only [Bool.and_eq_true] at h
      exact both G.hK (snd_bin (op_snd G (of_decide_eq_true h.1.1)) (sndE a sc st X _ G h.1.2).1 (sndE b sc st X _ G h.2).1) rfl
    · cases h
  | .cmp o a b, sc, st, X, e, G, h => by
    unfold chkE at h
    split at h
    · split at h
      · split at h
        · simp only [Bool.and_eq_true] at h
          obtain ⟨⟨⟨h1, h2⟩, h3⟩, h4⟩ := h
          split at h1
          · split at h2
            · split at h3
              · exact ⟨snd_isn (sndE a sc st X _ G h4).1, snd_tisn (sndE a sc st X _ G h4).1⟩
              · cases h3
            · cases h2
          · cases h1
        · simp only [Bool.and_eq_true] at h
          obtain ⟨⟨⟨h1, h2⟩, h3⟩, h4⟩ := h
          split at h1
          · split at h2
            · split at h3
              · exact ⟨snd_isnn (sndE a sc st X _ G h4).1, snd_tisnn (sndE a sc st X _ G h4).1⟩
              · cases h3
            · cases h2
          · cases h1
        · simp only [Bool.and_eq_true] at h
          obtain ⟨⟨⟨h1, h2⟩, h3⟩, h4⟩ := h
          have ho := cmp_snd G (of_decide_eq_true h1)
          exact ⟨snd_cmp ho (notSet_marks h2) (sndE a sc st X _ G h3).1 (sndE b sc st X _ G h4).1, snd_tcmp ho (notSet_marks h2) (sndE a sc st X _ G h3).1 (sndE b sc st X _ G h4).1⟩
      · cases h
    · cases h
  | .cmp2 o o' a b c, sc, st, X, e, G, h => by
    unfold chkE at h
    split at h
    · split at h
      · simp only [Bool.and_eq_true] at h
        obtain ⟨⟨⟨⟨⟨h1, h2⟩, h3⟩, h4⟩, h5⟩, h6⟩ := h
        have ho := cmp_snd G (of_decide_eq_true h1)
        have ho' := cmp_snd G (of_decide_eq_true h2)
        exact ⟨snd_cmp2 ho ho' (notSet_last h3) (sndE a sc st X _ G h4).1 (sndE b sc st X _ G h5).1 (sndE c sc st X _ G h6).1, snd_tcmp2 ho ho' (notSet_last h3) (sndE a sc st X _ G h4).1 (sndE b sc st X _ G h5).1 (sndE c sc st X _ G h6).1⟩
      · cases h
    · cases h
  | .boo c es, sc, st, X, e, G, h => by
    unfold chkE at h
    split at h
    · rw [Bool.and_eq_true] at h
      have e := of_decide_eq_true h.1
      subst e
      exact ⟨snd_boo (sndBo c es sc st X _ _ G h.2).1, snd_too (sndBo c es sc st X _ _ G h.2).2⟩
    · cases h
  | .nt a, sc, st, X, e, G, h => by
    unfold chkE at h
    split at h
    · rw [Bool.and_eq_true] at h
      obtain ⟨h1, h2⟩ := h
      split at h1
      · have := sndE a sc st X _ G h2
        exact ⟨snd_nt G.hK this.1, snd_tnt this.2⟩
      · cases h1
    · cases h
  | .neg a, sc, st, X, e, G, h => by
    unfold chkE at h
    split at h
    · rw [Bool.and_eq_true] at h
      obtain ⟨h1, h2⟩ := h
      split at h1
      · exact both G.hK (snd_neg (sndE a sc st X _ G h2).1) rfl
      · cases h1
    · cases h
  | .ite c a b, sc, st, X, e, G, h => by
    unfold chkE at h
    split at h
    · simp only [Bool.and_eq_true] at h
      have h1 := sndE c sc st X _ G h.1.1
      have h2 := sndE a sc st X _ G h.1.2
      have h3 := sndE b sc st X _ G h.2
      exact ⟨snd_ite h1.2 h2.1 h3.1, snd_tite h1.2 h2.2 h3.2⟩
    · cases h
  | .ix a i, sc, st, X, e, G, h => by
    unfold chkE at h
    split at h
    · simp only [Bool.and_eq_true] at h
      obtain ⟨⟨h1, h2⟩, h3⟩ := h
      exact both G.hK (snd_ix G.nix G.hK (sndE a sc st X _ G h2).1 (sndE i sc st X _ G h3).1 (plainIx_of h1)) rfl
    · cases h
  | .sl a lo hi, sc, st, X, e, G, h => by
    unfold chkE at h
    split at h
    · split at h
      · simp only [Bool.and_eq_true] at h
        obtain ⟨⟨⟨h1, h2⟩, h3⟩, h4⟩ := h
        split at h1
        · exact both G.hK (snd_sl G.hK (sndE a sc st X _ G h2).1 (sndO lo sc st X _ G h3) (sndO hi sc st X _ G h4)) rfl
        · cases h1
      · cases h
    · cases h
  | .cal f es, sc, st, X, e, G, h => by
    unfold chkE at h
    split at h
    · split at h
      · simp only [Bool.and_eq_true] at h
        obtain ⟨⟨⟨⟨⟨h1, h2⟩, h3⟩, h4⟩, h5⟩, h6⟩ := h
        rename_i xs ks p _ x p2
        have e := List.isEmpty_iff.mp h4
        subst e
        obtain ⟨hd, _, _⟩ := okName_of h3
        have hF := G.fn _ (of_decide_eq_true h1)
        cases xs with
        | nil =>
          cases es with
          | nil => exact both G.hK (snd_cal0 hF G.room (glo_of G.hs h2) hd) rfl
          | cons _ _ => simp [chkEs] at h6
          | star _ _ => simp [chkEs] at h6
        | cons y ys => exact both G.hK (snd_cal hF G.room (glo_of G.hs h2) hd h5 (sndEs es sc st X _ G h6)) rfl
      · cases h
    · cases h
  | .bi b es, sc, st, X, e, G, h => by
    unfold chkE at h
    split at h
    · split at h
      · simp only [Bool.and_eq_true] at h
        obtain ⟨⟨⟨⟨⟨⟨⟨h1, h2⟩, h3⟩, h4⟩, h5⟩, h6⟩, h7⟩, h8⟩ := h
        rename_i xs ks p _ x p2
        have e := List.isEmpty_iff.mp h5
        subst e
        obtain ⟨hd, _, hn⟩ := okName_of h4
        have hm : X.mg x = none := G.bl x (List.contains_iff_mem.mp h2)
        have hg := glo_of G.hs h3
        cases xs with
        | nil => simp at h7
        | cons y ys =>
          have ha := sndEs es sc st X _ G h8
          have e := of_decide_eq_true h1
          cases b <;> simp only [biName, Option.some.injEq] at e <;> first | (subst e) | (cases e; done)
          · exact both G.hK (snd_biB (bi_len G.hK) hg hm boot_len hn hd h6 ha) rfl
          · exact both G.hK (snd_biT bi_int hg hm boot_int hn hd h6 ha) rfl
          · exact both G.hK (snd_biT (bi_list G.hK) hg hm boot_list hn hd h6 ha) rfl
          · exact both G.hK (snd_biT (bi_tuple G.hK) hg hm boot_tuple hn hd h6 ha) rfl
          · exact both G.hK (snd_biB (bi_all G.hK G.calm) hg hm boot_all hn hd h6 ha) rfl
          · exact both G.hK (snd_biB (bi_any G.hK G.calm) hg hm boot_any hn hd h6 ha) rfl
      · cases h
    · cases h
  | .isi a ts, sc, st, X, e, G, h => by
    unfold chkE at h
    split at h
    · split at h
      · simp only [Bool.and_eq_true] at h
        obtain ⟨⟨⟨⟨⟨⟨⟨h1, h2⟩, h3⟩, h4⟩, h5⟩, h6⟩, h7⟩, h8⟩ := h
        have e := List.isEmpty_iff.mp h4
        subst e
        have ex := of_decide_eq_true h1
        subst ex
        have hm : X.mg "isinstance" = none := G.bl _ (List.contains_iff_mem.mp h2)
        have hg := glo_of G.hs h3
        have he := (sndE a sc st X _ G h7).1
        split at h8
        · obtain ⟨hc, hy, _⟩ := sndTy G h8
          exact both G.hK (snd_isi1 (p2 := ⟨0, 0, 0, 0⟩) G.hK hg hm h5 h6 he hc G.ci (fun dt hd => G.ty _ hy dt hd)) rfl
        · split at h8
          · rw [Bool.and_eq_true] at h8
            exact both G.hK (snd_isiN G hg hm h5 he (of_decide_eq_true h8.1) h8.2) rfl
          · cases h8
      · cases h
    · cases h
  | .bm m o es, sc, st, X, e, G, h => by
    unfold chkE at h
    split at h
    · split at h
      · simp only [Bool.and_eq_true] at h
        obtain ⟨⟨⟨⟨⟨⟨⟨⟨h1, h2⟩, h3⟩, h4⟩, h5⟩, h6⟩, h7⟩, h8⟩, h9⟩ := h
        rename_i xs ks p _ y name ap
        have e := List.isEmpty_iff.mp h4
        subst e
        cases xs with
        | nil => simp at h6
        | cons z zs =>
          have ho := (sndE o sc st X _ G h8).1
          have ha := sndEs es sc st X _ G h9
          have hl := of_decide_eq_true h7
          have e := of_decide_eq_true h1
          cases m <;> simp only [bmName, Option.some.injEq] at e <;> first | (subst e) | (cases e; done)
          · exact both G.hK (snd_bm rfl G.hK PySem.F.plainAttrs_list PySem.F.slot_list_append PySem.F.type_list_append mt_app h2 h3 h5 hl ho ha) rfl
          · exact both G.hK (snd_bm rfl G.hK PySem.F.plainAttrs_str PySem.F.slot_str_join PySem.F.type_str_join (mt_joi G.hK) h2 h3 h5 hl ho ha) rfl
      · cases h
    · cases h
  | .lc el t i ifs own, sc, st, X, e, G, h => by
    unfold chkE at h
    split at h
    · split at h
      · simp only [Bool.and_eq_true] at h
        obtain ⟨⟨⟨⟨⟨⟨⟨h1, h2⟩, h3⟩, h4⟩, h5⟩, h6⟩, h7⟩, h8⟩ := h
        rename_i x scope p _ c
        obtain ⟨tg, iter, cs, asy⟩ := c
        have e := of_decide_eq_true h1
        simp only at e
        subst e
        have ok : BlkOk X.N X.env.scope scope (ownN N own) := by rw [G.hN, G.hs]; exact blkOk_by h3
        have hsl : ∀ j ∈ tslots t, j ∈ (ownN N own).map (·.2) := by
          rw [map_ownN]
          intro j hj
          rw [List.all_eq_true] at h5
          exact List.contains_iff_mem.mp (h5 j hj)
        have key := snd_lc (X := X) (g := g) (C := C) (pos := p) (e := el) (t := t) (it := i) (fs := ifs) G.calm (G.hN ▸ G.nd) (sndI i sc st X tg iter G h6) ok hsl
          (fun s H A cl fp => (sndTg (G.blk ok.kind (own := ownN N own) s H A cl fp) t tg h4).1) (fun s H A cl fp => sndIfs ifs _ _ _ cs (G.blk ok.kind (own := ownN N own) s H A cl fp) h7)
          (fun s H A cl fp => (sndE el _ _ _ x (G.blk ok.kind (own := ownN N own) s H A cl fp) h8).1) (notSet_folded h2 X.env)
        rw [map_ownN] at key
        exact both G.hK key rfl
      · cases h
    · cases h
  | .att _ _, _, _, _, _, _, h => by unfold chkE at h; cases h
  | .calk _ _ _ _, _, _, _, _, _, h => by unfold chkE at h; cases h
  | .mk _ _ _ _, _, _, _, _, _, h => by unfold chkE at h; cases h
  | .met _ _ _ _ _, _, _, _, _, _, h => by unfold chkE at h; cases h
  | .cmt _ _ _ _ _, _, _, _, _, _, h => by unfold chkE at h; cases h
  | .calv _ _, _, _, _, _, _, h => by unfold chkE at h; cases h
  | .lc2 _ _ _ _ _ _ _ _ _, _, _, _, _, _, h => by unfold chkE at h; cases h
  | .dc _ _ _ _ _ _, _, _, _, _, _, h => by unfold chkE at h; cases h
  | .dic _, _, _, _, _, _, h => by unfold chkE at h; cases h
  | .fst _, _, _, _, _, _, h => by unfold chkE at h; cases h
  | .lam _ _, _, _, _, _, _, h => by unfold chkE at h; cases h
  | .ccon _ _ _, _, _, _, _, _, h => by unfold chkE at h; cases h
theorem sndEs : ∀ (t : Es) (sc st : Scope) (X : Cx) (es : List Expr), GX T C g k N sc st X → chkEs T N t sc es = true → PA X es (rdEs g C t)
  | .nil, sc, st, X, es, G, h => by
    unfold chkEs at h
    have e := List.isEmpty_iff.mp h
    subst e
    exact snd_nil
  | .cons a r, sc, st, X, es, G, h => by
    unfold chkEs at h
    split at h
    · rename_i x xs
      simp only [Bool.and_eq_true] at h
      exact snd_cons h.1.1 (sndE a sc st X _ G h.1.2).1 (sndEs r sc st X _ G h.2)
    · cases h
  | .star _ _, sc, st, X, es, G, h => by unfold chkEs at h; cases h
theorem sndBo : ∀ (c : Bool) (t : Es) (sc st : Scope) (X : Cx) (es : List Expr) (pos : Pos), GX T C g k N sc st X → chkBo T N t sc es = true → PE X (.BoolOp (bop c) es pos) (rdBo g C c t) ∧ PW X (.BoolOp (bop c) es pos) (rdTo g C c t)
  | c, .nil, sc, st, X, es, pos, G, h => by unfold chkBo at h; cases h
  | c, .star _ _, sc, st, X, es, pos, G, h => by unfold chkBo at h; cases h
  | c, .cons a .nil, sc, st, X, es, pos, G, h => by
    unfold chkBo at h
    split at h
    · rename_i x xs
      rw [Bool.and_eq_true] at h
      have e := List.isEmpty_iff.mp h.2
      subst e
      have h1 := sndE a sc st X _ G h.1
      exact ⟨snd_bo1 h1.1, snd_to1 h1.2⟩
    · cases h
  | c, .cons a (.cons b r), sc, st, X, es, pos, G, h => by
    unfold chkBo at h
    split at h
    · rename_i x xs
      rw [Bool.and_eq_true] at h
      have h1 := sndE a sc st X _ G h.1
      have h2 := sndBo c (.cons b r) sc st X xs pos G h.2
      cases xs with
      | nil => have h3 := h.2; simp [chkBo] at h3
      | cons y ys => exact ⟨snd_bo2 G.hK h1.1 h2.1, snd_to2 h1.2 h2.2⟩
    · cases h
  | c, .cons a (.star _ _), sc, st, X, es, pos, G, h => by
    unfold chkBo at h
    split at h
    · rw [Bool.and_eq_true] at h
      have h3 := h.2
      simp [chkBo] at h3
    · cases h
theorem sndIfs : ∀ (t : Es) (sc st : Scope) (X : Cx) (es : List Expr), GX T C g k N sc st X → chkIfs T N t sc es = true → PTs X es (rdIfs g C t)
  | .nil, sc, st, X, es, G, h => by
    unfold chkIfs at h
    have e := List.isEmpty_iff.mp h
    subst e
    exact snd_ifs0
  | .cons a r, sc, st, X, es, G, h => by
    unfold chkIfs at h
    rw [Bool.and_eq_true] at h
    obtain ⟨h1, h2⟩ := h
    split at h1
    · split at h2
      · exact snd_ifs1 (sndE a sc st X _ G h2).2
      · cases h2
    · cases h1
  | .star _ _, sc, st, X, es, G, h => by unfold chkIfs at h; cases h
theorem sndO : ∀ (t : Oe) (sc st : Scope) (X : Cx) (e : Option Expr), GX T C g k N sc st X → chkO T N t sc e = true → PO X e (rdO g C t)
  | .no, sc, st, X, e, G, h => by
    unfold chkO at h
    cases e with
    | none => exact snd_po0
    | some _ => cases h
  | .so a, sc, st, X, e, G, h => by
    unfold chkO at h
    split at h
    · exact snd_po1 (sndE a sc st X _ G h).1
    · cases h
theorem sndI : ∀ (t : Lm.It) (sc st : Scope) (X : Cx) (tg x : Expr), GX T C g k N sc st X → chkI T N t sc tg x = true → PI X tg x (rdI g C t)
  | .val e, sc, st, X, tg, x, G, h => by
    unfold chkI at h
    exact snd_val G.hK (sndE e sc st X _ G h).1
  | .rng1 a, sc, st, X, tg, x, G, h => by
    unfold chkI at h
    split at h
    · split at h
      · simp only [Bool.and_eq_true] at h
        obtain ⟨⟨⟨⟨⟨h1, h2⟩, h3⟩, h4⟩, h5⟩, h6⟩ := h
        have e := List.isEmpty_iff.mp h4
        subst e
        have ex := of_decide_eq_true h1
        subst ex
        exact snd_rng1 (glo_of G.hs h3) (G.bl _ (List.contains_iff_mem.mp h2)) h5 (sndE a sc st X _ G h6).1
      · cases h
    · cases h
  | .rng2 a b, sc, st, X, tg, x, G, h => by
    unfold chkI at h
    split at h
    · split at h
      · simp only [Bool.and_eq_true] at h
        obtain ⟨⟨⟨⟨⟨⟨⟨h1, h2⟩, h3⟩, h4⟩, h5⟩, h6⟩, h7⟩, h8⟩ := h
        have e := List.isEmpty_iff.mp h4
        subst e
        have ex := of_decide_eq_true h1
        subst ex
        exact snd_rng2 (glo_of G.hs h3) (G.bl _ (List.contains_iff_mem.mp h2)) h5 h6 (sndE a sc st X _ G h7).1 (sndE b sc st X _ G h8).1
      · cases h
    · cases h
  | .zip a b, sc, st, X, tg, x, G, h => by
    unfold chkI at h
    rw [Bool.and_eq_true] at h
    obtain ⟨h0, h⟩ := h
    split at h0
    · split at h
      · split at h
        · simp only [Bool.and_eq_true] at h
          obtain ⟨⟨⟨⟨⟨⟨⟨h1, h2⟩, h3⟩, h4⟩, h5⟩, h6⟩, h7⟩, h8⟩ := h
          have e := List.isEmpty_iff.mp h4
          subst e
          have ex := of_decide_eq_true h1
          subst ex
          exact snd_zip G.hK (glo_of G.hs h3) (G.bl _ (List.contains_iff_mem.mp h2)) h5 h6 (sndE a sc st X _ G h7).1 (sndE b sc st X _ G h8).1
        · cases h
      · cases h
    · cases h0
  | .rng3 _ _ _, _, _, _, _, _, _, h => by unfold chkI at h; cases h
  | .enum _, _, _, _, _, _, _, h => by unfold chkI at h; cases h
  | .items _, _, _, _, _, _, _, h => by unfold chkI at h; cases h
  | .rev _, _, _, _, _, _, _, h => by unfold chkI at h; cases h
end
end
end Lm

/-! Soundness of statements. -/
namespace Lm
open PySem PySem.Spec PyProof.Rows L2

section
variable {T : Tab} {C : Cn} {g : G} {k : Nat} {N : List Str} {sc : Scope} {X : Cx}
theorem GX.bk (G : GX T C g k N sc sc X) : X.env.blockKind = .function := by
  unfold PySem.Env.blockKind
  rw [G.hs, G.kd]
  rfl
theorem GX.ko (G : GX T C g k N sc sc X) (x : Str) : X.env.kindOf x = sc.names.lookup x := by
  unfold PySem.Env.kindOf
  rw [G.hs]
theorem swaps_n (G : GX T C g k N sc sc X) {x : Str} {px p2 : Pos} {el : Expr} {gs : List Comprehension} {scope : Scope} {l : Nat} :
    swapsWith (.ListComp el gs scope p2) (some (.Name x px)) l X.env = pure (decide (sc.names.lookup x = some .local) && px.line == p2.line && !(scope.names.any fun (n, k) => n == x && (k == .local || k == .cell))) := by
  show (pure (X.env.blockKind == .function && X.env.kindOf x == some .local && px.line == (Expr.ListComp el gs scope p2).pos.line && _) : Sem Bool) = _
  rw [G.bk, G.ko]
  have e : ∀ a : Option NameKind, (a == some .local) = decide (a = some .local) := fun a => by
    cases a with
    | none => rfl
    | some k => cases k <;> rfl
  rw [e]
  rfl
theorem swaps_t {e : Expr} {es : List Expr} {kk : Nat} {p : Pos} {l : Nat} {env : PySem.Env} : swapsWithSole [.Tuple es kk p] e l env = pure false := by
  cases e <;> rfl
theorem swaps_s {e o i : Expr} {p : Pos} {l : Nat} {env : PySem.Env} : swapsWithSole [.Subscript o i p] e l env = pure false := by
  cases e <;> rfl
theorem stores_n {e : Expr} {es : List Expr} {kk : Nat} {p : Pos} {env : PySem.Env} (h : ∀ vs k2 p2, e ≠ .Tuple vs k2 p2) : swappedStores [.Tuple es kk p] e env = pure none := by
  cases e <;> first | rfl | (exact absurd rfl (h _ _ _))
end
section
variable {T : Tab} {C : Cn} {g : G} {k : Nat} {N : List Str} {sc : Scope} {X : Cx}
theorem sub_assign {o i : Expr} {p : Pos} {env : PySem.Env} (h : notSlice i = true) : ∀ v, assign (.Subscript o i p) env v = (do
      let ov ← holding [v] (eval o env)
      let iv ← holding [v, ov] (eval i env)
      standAt p
      holding [v, ov, iv] (setItem ov iv v)
      release [v, ov, iv] []) := by
  intro v
  cases i <;> first | rfl | cases h
mutual
theorem sndS (G : GX T C g k N sc sc X) : ∀ (t : Lm.S) (s : Stmt), chkS T N sc t s = true → PS X s (rdS g C t)
  | .asg (.n i) e, s, h => by
    unfold chkS at h
    split at h
    · rename_i tgs v p
      split at h
      · rename_i tg
        simp only [Bool.and_eq_true] at h
        obtain ⟨h1, h2⟩ := h
        unfold chkTg at h1
        split at h1
        · rename_i x px
          rw [Bool.and_eq_true] at h1
          have hi : X.N[i]? = some x := by rw [G.hN]; exact of_decide_eq_true h1.1
          have hst := G.hst x h1.2
          have hnd : X.N.Nodup := by rw [G.hN]; exact G.nd
          split at h2
          · rename_i el gs scope p2
            rw [Bool.and_eq_true] at h2
            obtain ⟨h3, h4⟩ := h2
            have he := (sndE e sc sc X _ G h3).1
            simp only at h4
            split at h4
            · rename_i hsw
              cases e <;> first | (cases h4; done) | skip
              rename_i el' t it ifs own
              unfold chkE at h3
              simp only at h3
              split at h3
              · simp only [Bool.and_eq_true] at h3 hsw
                obtain ⟨⟨⟨⟨⟨⟨⟨g1, g2⟩, g3⟩, g4⟩, g5⟩, g6⟩, g7⟩, g8⟩ := h3
                rename_i c
                obtain ⟨tg, iter, cs, asy⟩ := c
                have e := of_decide_eq_true g1
                simp only at e
                subst e
                have ok : BlkOk X.N X.env.scope scope (ownN N own) := by rw [G.hN, G.hs]; exact blkOk_by g3
                have hsl : ∀ j ∈ tslots t, j ∈ (ownN N own).map (·.2) := by
                  rw [map_ownN]
                  intro j hj
                  rw [List.all_eq_true] at g5
                  exact List.contains_iff_mem.mp (g5 j hj)
                have hx : X.env.scope.names.lookup x = some .local := by rw [G.hs]; exact of_decide_eq_true hsw.1.1
                have sw := sw_true (elt := el) (gs := [⟨tg, iter, cs, 0⟩]) (pos := p2) (py := px) (l := p.line) (env := X.env) (by rw [G.hs]; exact G.kd) hx hsw.1.2 (by have := hsw.2; simpa using this)
                have key := snd_asgLc (X := X) (g := g) (C := C) (p := p2) (spos := p) (py := px) (i := i) (e := el') (t := t) (it := it) (fs := ifs) G.calm hnd hi hx sw (sndI it sc sc X tg iter G g6) ok hsl
                  (fun s H A cl fp => (sndTg (G.blk ok.kind (own := ownN N own) s H A cl fp) t tg g4).1) (fun s H A cl fp => sndIfs ifs _ _ _ cs (G.blk ok.kind (own := ownN N own) s H A cl fp) g7)
                  (fun s H A cl fp => (sndE el' _ _ _ el (G.blk ok.kind (own := ownN N own) s H A cl fp) g8).1) (notSet_folded g2 X.env)
                rw [map_ownN] at key
                exact key
              · cases h3
            · rename_i hsw
              have hsw' : (decide (sc.names.lookup x = some .local) && px.line == p2.line && !(scope.names.any fun (n, k) => n == x && (k == .local || k == .cell))) = false := by
                rw [Bool.eq_false_iff, ne_eq]
                simp only [Bool.and_eq_true]
                exact hsw
              exact snd_asgN hnd hi hst.1 hst.2 (by rw [swaps_n G, hsw']) he
          · rw [Bool.and_eq_true] at h2
            exact snd_asgN hnd hi hst.1 hst.2 (swaps_no h2.1 _ _ _) (sndE e sc sc X _ G h2.2).1
        · cases h1
      · cases h
    · cases h
  | .asg (.t ts) e, s, h => by
    unfold chkS at h
    split at h
    · rename_i tgs v p
      split at h
      · rename_i tg
        simp only at h
        split at h
        · rename_i es kk pt
          simp only [Bool.and_eq_true] at h
          obtain ⟨⟨h1, h2⟩, h3⟩ := h
          have hnd : X.N.Nodup := by rw [G.hN]; exact G.nd
          have he := (sndE e sc sc X _ G h2).1
          obtain ⟨hg, hn⟩ := sndTgs G ts es h1
          have hlen : (assignEach es X.env).length = tlen ts := by rw [(hn X.env).1, List.length_map, (hn X.env).2]
          have hst : (assignEach es X.env).findIdx? (·.1) = none := by
            rw [(hn X.env).1, List.findIdx?_eq_none_iff]
            intro x hx
            obtain ⟨y, _, rfl⟩ := List.mem_map.mp hx
            rfl
          have hk : (fun x => X.env.kindOf x) = (fun x => sc.names.lookup x) := funext fun x => G.ko x
          split at h3
          · rename_i vs k2 p2
            split at h3
            · rename_i hw
              exact snd_asgT G.hK G.calm he hg hlen hst swaps_t (swap_of G.bk (by rw [show X.env.kindOf = (fun x => sc.names.lookup x) from hk]; exact hw))
            · split at h3
              · simp only [Bool.and_eq_true] at h3
                obtain ⟨⟨⟨g1, g2⟩, g3⟩, g4⟩ := h3
                simp only [chkTgs, chkTg, Bool.and_eq_true] at h1
                obtain ⟨⟨q1, _⟩, ⟨q2, _⟩, _⟩ := h1
                unfold chkE at h2
                simp only [Bool.and_eq_true] at h2
                exact snd_par G.calm hnd (by rw [G.hN]; exact of_decide_eq_true q1) (by rw [G.hN]; exact of_decide_eq_true q2) (of_decide_eq_true g1) (by rw [G.hs]; exact of_decide_eq_true g2) (by rw [G.hs]; exact of_decide_eq_true g3) (sndEs _ sc sc X _ G h2.2)
                  (swap_of G.bk (by rw [show X.env.kindOf = (fun x => sc.names.lookup x) from hk]; exact of_decide_eq_true g4))
              · simp only [Bool.and_eq_true] at h3
                obtain ⟨⟨⟨⟨⟨⟨g1, g2⟩, g3⟩, g4⟩, g5⟩, g6⟩, g7⟩ := h3
                simp only [chkTgs, chkTg, Bool.and_eq_true] at h1
                obtain ⟨⟨q1, _⟩, ⟨q2, _⟩, ⟨q3, _⟩, _⟩ := h1
                unfold chkE at h2
                simp only [Bool.and_eq_true] at h2
                exact snd_par3 G.calm hnd (by rw [G.hN]; exact of_decide_eq_true q1) (by rw [G.hN]; exact of_decide_eq_true q2) (by rw [G.hN]; exact of_decide_eq_true q3) (of_decide_eq_true g1) (of_decide_eq_true g2) (of_decide_eq_true g3) (by rw [G.hs]; exact of_decide_eq_true g4) (by rw [G.hs]; exact of_decide_eq_true g5) (by rw [G.hs]; exact of_decide_eq_true g6) (sndEs _ sc sc X _ G h2.2)
                  (swap_of G.bk (by rw [show X.env.kindOf = (fun x => sc.names.lookup x) from hk]; exact of_decide_eq_true g7))
              · cases h3
            · cases h3
          · rename_i hv
            exact snd_asgT G.hK G.calm he hg hlen hst swaps_t (stores_n hv)
        · cases h
      · cases h
    · cases h
  | .asgS a i e, s, h => by
    unfold chkS at h
    split at h
    · split at h
      · simp only [Bool.and_eq_true] at h
        obtain ⟨⟨⟨⟨h1, h2⟩, h3⟩, h4⟩, h5⟩ := h
        exact snd_asgS G.nst G.hK swaps_s (sndE a sc sc X _ G h3).1 (sndE i sc sc X _ G h4).1 (sndE e sc sc X _ G h5).1 (sub_assign h1)
      · cases h
    · cases h
  | .aug i o e, s, h => by
    unfold chkS at h
    split at h
    · split at h
      · simp only [Bool.and_eq_true] at h
        obtain ⟨⟨h1, h2⟩, h3⟩ := h
        split at h1
        · unfold chkTg at h2
          simp only [Bool.and_eq_true] at h2
          have hst := G.hst _ h2.2
          exact snd_aug is_add (by rw [G.hN]; exact G.nd) (by rw [G.hN]; exact of_decide_eq_true h2.1) hst.1 hst.2 (sndE e sc sc X _ G h3).1
        · cases h1
      · cases h
    · cases h
  | .ex e, s, h => by
    unfold chkS at h
    split at h
    · rw [Bool.and_eq_true] at h
      exact snd_expr (sndE e sc sc X _ G h.2).1 (swaps_no h.1 _ _ _)
    · cases h
  | .ret e, s, h => by
    unfold chkS at h
    split at h
    · exact snd_ret (sndE e sc sc X _ G h).1
    · cases h
  | .retN, s, h => by
    unfold chkS at h
    split at h
    · exact snd_retN
    · cases h
  | .iff c a b, s, h => by
    unfold chkS at h
    split at h
    · simp only [Bool.and_eq_true] at h
      exact snd_if (sndE c sc sc X _ G h.1.1).2 (sndSs G a _ h.1.2) (sndSs G b _ h.2)
    · cases h
  | .whl c b, s, h => by
    unfold chkS at h
    split at h
    · simp only [Bool.and_eq_true] at h
      have e := List.isEmpty_iff.mp h.1.1
      subst e
      exact snd_while G.xe (sndE c sc sc X _ G h.1.2).2 (sndSs G b _ h.2)
    · cases h
  | .fr t i b, s, h => by
    unfold chkS at h
    split at h
    · simp only [Bool.and_eq_true] at h
      obtain ⟨⟨⟨⟨h1, h2⟩, h3⟩, h4⟩, h5⟩ := h
      have e := List.isEmpty_iff.mp h1
      subst e
      exact snd_for G.xe G.calm (sndI i sc sc X _ _ G h4) (sndTg G t _ h3).1 (sndSs G b _ h5) (notSet_folded h2 X.env)
    · cases h
  | .pas, s, h => by
    unfold chkS at h
    split at h
    · exact snd_pass
    · cases h
  | .asgA _ _ _, s, h => by unfold chkS at h; cases h
  | .augA _ _ _ _, s, h => by unfold chkS at h; cases h
  | .sup _ _, s, h => by unfold chkS at h; cases h
  | .rai _, s, h => by unfold chkS at h; cases h
  | .tr _ _ _ _, s, h => by unfold chkS at h; cases h
  | .yld _, s, h => by unfold chkS at h; cases h
theorem sndSs (G : GX T C g k N sc sc X) : ∀ (t : Ss) (ss : List Stmt), chkSs T N sc t ss = true → PSs X ss (rdSs g C t)
  | .nil, ss, h => by
    unfold chkSs at h
    have e := List.isEmpty_iff.mp h
    subst e
    exact snd_snil
  | .cons s r, ss, h => by
    unfold chkSs at h
    split at h
    · rw [Bool.and_eq_true] at h
      exact snd_scons (sndS G s _ h.1) (sndSs G r _ h.2)
    · cases h
end
end
end Lm

/-! Defs: each does what the evaluator says, by the depth of calls. -/
namespace Lm
open PySem PySem.Spec PyProof.Rows L2

/-- one def of the law's text -/
structure Un where
  id : Nat
  name : Str
  qual : Str
  params : Arguments
  body : List Stmt
  scope : Scope
  N : List Str
  ps : List Str
def chkUn (T : Tab) (P : Prog) (u : Un) : Bool := match P.fn u.id with
  | some F => decide (F.npar = u.ps.length) && decide (F.nsl = u.N.length) && C8.scC u.N u.ps u.scope && chkSs T u.N u.scope F.body u.body
  | none => false
def chkT (T : Tab) (us : List Un) : Bool := T.fn.all fun p => us.any fun u => decide (u.id = p.1) && decide (u.name = p.2)
theorem chkT_ok {T : Tab} {us : List Un} (h : chkT T us = true) : ∀ p ∈ T.fn, ∃ u ∈ us, u.id = p.1 ∧ u.name = p.2 := by
  intro p hp
  obtain ⟨u, hu, e⟩ := List.any_eq_true.mp (List.all_eq_true.mp h p hp)
  rw [Bool.and_eq_true] at e
  exact ⟨u, hu, of_decide_eq_true e.1, of_decide_eq_true e.2⟩
/-- .. as it stands behind the top -/
structure UnOk (K : PySem.W.Frag) (mg : Str → Option Value) (u : Un) (f : Addr) (fd : FuncData) : Prop where
  fn : FunD K u.name u.qual u.params u.body u.scope [] [] f fd
  at_ : mg u.name = some (.ref f)
  b : Binds K fd u.ps []
/-- what is known of the rest of the top -/
structure Stat (T : Tab) (P : Prog) (g : G) (mg : Str → Option Value) : Prop where
  con : ∀ p ∈ T.cs, ConOk g mg p
  bl : ∀ x ∈ T.bl, mg x = none
  ty : ∀ y ∈ T.ty, ∀ dt : DT, (∀ c, dt = .own c → P.cl c ≠ none) → TyOk g P dt y
  ci : ∀ c, P.cl c ≠ none → ClsI g.K (g.cad c)
  neq : NoM P [95, 95, 101, 113, 95, 95]
  nin : NoM P [95, 95, 99, 111, 110, 116, 97, 105, 110, 115, 95, 95]
  nix : NoM P [95, 95, 103, 101, 116, 105, 116, 101, 109, 95, 95]
  nst : NoM P [95, 95, 115, 101, 116, 105, 116, 101, 109, 95, 95]

theorem relE_start {g : G} {ι : Nat → Addr} {n : Nat} {H : Hp} {m : Nat} : ∀ {ds : List D} {vs : List V}, RelDs g ι n H ds vs → RelE g ι n H (ds.map some ++ List.replicate m none) (vs.map some ++ List.replicate m none) := by
  intro ds vs h
  have hl := h.length
  refine ⟨by simp [hl], fun i d e => ?_⟩
  by_cases hi : i < ds.length
  · rw [List.getElem?_append_left (by simpa using hi), List.getElem?_map] at e
    cases q : ds[i]? with
    | none => rw [q] at e; cases e
    | some d' =>
      rw [q] at e
      cases e
      obtain ⟨v, e1, r⟩ := h.get q
      exact ⟨v, by rw [List.getElem?_append_left (by simp; omega), List.getElem?_map, e1]; rfl, r⟩
  · rw [List.getElem?_append_right (by simp; omega)] at e
    rw [List.getElem?_replicate] at e
    split at e <;> cases e

section
variable {T : Tab} {P : Prog} {g : G} {mg : Str → Option Value} {prog : Program} {w : World} {base : Heap} {us : List Un}
theorem all_ok (hT : ∀ p ∈ T.fn, ∃ u ∈ us, u.id = p.1 ∧ u.name = p.2) (hc : ∀ u ∈ us, chkUn T P u = true) (hok : ∀ u ∈ us, ∃ f fd, UnOk g.K mg u f fd) (st : Stat T P g mg) :
    ∀ (d : Nat) (u : Un), u ∈ us → ∀ f fd, UnOk g.K mg u f fd → FnOk prog w g.K mg base CX0 d f fd u.ps (spF g u.ps.length (evFn P d u.id)) := by
  intro d
  induction d with
  | zero =>
    intro u hu f fd ok
    refine ⟨fun vs H Q E ⟨ι, S, ds, _, _, _, h⟩ => ?_, fun A outer s H args us vs Q E _ _ _ _ ⟨ι, S, ds, _, _, _, h⟩ => ?_⟩
    · unfold evFn at h; exact h.elim
    · unfold evFn at h; exact h.elim
  | succ d ih =>
    intro u hu f fd ok
    have hc0 := hc u hu
    unfold chkUn at hc0
    split at hc0
    · rename_i F hF
      simp only [Bool.and_eq_true] at hc0
      obtain ⟨⟨⟨h1, h2⟩, h3⟩, h4⟩ := hc0
      have h1 := of_decide_eq_true h1
      have h2 := of_decide_eq_true h2
      have S := C8.fnScope_by h3
      refine ok.fn.ok S (fun vs H Q E h => ?_) (fun cdv A outer s H vs Q E hr h => ?_)
      · obtain ⟨ι, S, ds, _, r, hl, _⟩ := h
        rw [← r.length, hl]
      · obtain ⟨ι, St, ds, rs, r, hl, h⟩ := h
        rw [evFn, hF] at h
        simp only at h
        split at h
        · rename_i hn
          obtain ⟨fr, S1, e1, h⟩ := h.bnd
          refine ⟨rdSs g ⟨P, evFn P d, fuel⟩ F.body, (sndSs (T := T) (k := d) (N := u.N) (sc := u.scope) (X := (cxOf CX0 prog w g.K mg base u.N u.qual u.scope f cdv A outer s H E).nox) ?_ F.body u.body h4).nox, ι, ds.map some ++ List.replicate (F.nsl - F.npar) none, St, rs, ?_, ?_⟩
          · exact {
              hK := rfl, hN := rfl, nd := S.nd, hs := rfl, kd := S.kind, calm := rfl, room := hr, xe := PassesOwn.never,
              hst := fun x hx => by
                refine ⟨?_, .inl rfl⟩
                unfold lcl at hx
                split at hx
                · rename_i e; exact .inl e
                · rename_i e; exact .inr e
                · cases hx
              fn := fun p hp => by
                obtain ⟨v, hv, e1, e2⟩ := hT p hp
                obtain ⟨f', fd', ok'⟩ := hok v hv
                have hcv := hc v hv
                unfold chkUn at hcv
                split at hcv
                · rename_i F' hF'
                  simp only [Bool.and_eq_true] at hcv
                  exact ⟨f', fd', v.ps, e2 ▸ ok'.at_, ok'.fn.kp, ok'.b, ⟨F', e1 ▸ hF', of_decide_eq_true hcv.1.1.1⟩, e1 ▸ ih v hv f' fd' ok'⟩
                · cases hcv
              con := st.con, bl := st.bl, ty := st.ty, ci := st.ci, neq := st.neq, nin := st.nin, nix := st.nix, nst := st.nst }
          · have e : L2.start u.N vs = vs.map some ++ List.replicate (F.nsl - F.npar) none := by
              unfold L2.start
              rw [h1, h2, ← r.length, hl]
            rw [e]
            exact relE_start r
          · rw [e1]
            cases fr with
            | nx ρ1 => exact fun ι1 σ1 H1 p1 _ => (h.post p1).non p1.rel
            | rt v => exact fun ι1 u1 H1 p1 r1 => (h.post p1).val p1.rel r1
        · exact h.elim
    · cases hc0
end
end Lm

/-! The end: a law by its data. -/
namespace Lm
open PySem PySem.Spec PyProof.Rows L2

/-! ### constants of the module -/
mutual
def relDV (K : PySem.W.Frag) : D → Value → Bool
  | .non, v => (match v with | .none => true | _ => false)
  | .bl b, v => (match v with | .bool c => b == c | _ => false)
  | .int i, v => (match v with | .int j _ => decide (i = j) | _ => false)
  | .str s, v => (match v with | .str y _ => decide (toS s = y) | _ => false)
  | .tup ds, v => (match v with
    | .ref a => (match K.lookup a with
      | some ⟨.type c, _, .seq its _, _⟩ => decide (c = "tuple") && decide (its.size ≤ sizeLine) && relDVs K ds its.toList
      | _ => false)
    | _ => false)
  | _, _ => false
def relDVs (K : PySem.W.Frag) : List D → List Value → Bool
  | [], us => us.isEmpty
  | d :: ds, us => (match us with
    | u :: us => relDV K d u && relDVs K ds us
    | [] => false)
end
section
variable {g : G}
mutual
theorem relDV_ok : ∀ (d : D) (u : Value), relDV g.K d u = true → ∃ v, RelV v u ∧ ∀ ι n H, RelD g ι n H d v
  | .non, u, h => by
    unfold relDV at h
    split at h
    · exact ⟨.non, rfl, fun _ _ _ => by rw [RelD]⟩
    · cases h
  | .bl b, u, h => by
    unfold relDV at h
    split at h
    · have e := beq_iff_eq.mp h; subst e; exact ⟨.bl b, rfl, fun _ _ _ => by rw [RelD]⟩
    · cases h
  | .int i, u, h => by
    unfold relDV at h
    split at h
    · have e := of_decide_eq_true h; subst e; exact ⟨.int i, ⟨_, rfl⟩, fun _ _ _ => by rw [RelD]⟩
    · cases h
  | .str s, u, h => by
    unfold relDV at h
    split at h
    · have e := of_decide_eq_true h; subst e; exact ⟨.str (toS s), ⟨_, rfl⟩, fun _ _ _ => by rw [RelD]⟩
    · cases h
  | .tup ds, u, h => by
    unfold relDV at h
    split at h
    · rename_i a
      split at h
      · rename_i c od its nn sl e0
        simp only [Bool.and_eq_true] at h
        obtain ⟨⟨h1, h2⟩, h3⟩ := h
        obtain ⟨vs, r1, r2⟩ := relDVs_ok ds its.toList h3
        have ec := of_decide_eq_true h1
        refine ⟨.ref a, rfl, fun ι n H => ?_⟩
        rw [RelD]
        exact ⟨a, vs, rfl, .inr ⟨_, its, nn, e0, congrArg Value.type ec, rfl, of_decide_eq_true h2, r1⟩, r2 ι n H⟩
      · cases h
    · cases h
  | .lst _, u, h => by unfold relDV at h; cases h
  | .ref _, u, h => by unfold relDV at h; cases h
  | .cls _, u, h => by unfold relDV at h; cases h
theorem relDVs_ok : ∀ (ds : List D) (us : List Value), relDVs g.K ds us = true → ∃ vs, Vals vs us ∧ ∀ ι n H, RelDs g ι n H ds vs
  | [], us, h => by
    unfold relDVs at h
    have e := List.isEmpty_iff.mp h
    subst e
    exact ⟨[], .nil, fun _ _ _ => RelDs.nil⟩
  | d :: ds, us, h => by
    unfold relDVs at h
    split at h
    · rw [Bool.and_eq_true] at h
      obtain ⟨v, r1, r2⟩ := relDV_ok d _ h.1
      obtain ⟨vs, r3, r4⟩ := relDVs_ok ds _ h.2
      exact ⟨v :: vs, .cons r1 r3, fun ι n H => RelDs.cons (r2 ι n H) (r4 ι n H)⟩
    · cases h
end
end
def conB (K : PySem.W.Frag) (p : Txt × D) : Bool := match PySem.W.nsIn K mainGlobals (toS p.1) with
  | some (some v) => relDV K p.2 v
  | _ => false
theorem conB_ok {g : G} {h : Heap} {mg : Str → Option Value} (X : g.K.In h) (N : h.Ns mainGlobals mg) {p : Txt × D} (c : conB g.K p = true) : ConOk g mg p := by
  unfold conB at c
  split at c
  · rename_i v e
    obtain ⟨v', r1, r2⟩ := relDV_ok (g := g) p.2 v c
    exact ⟨v, v', PySem.W.mg_of X N e, r1, r2⟩
  · cases c

/-! ### what the head looks at -/
def notL (o : Obj) : Bool := match o.cls with
  | .type c => decide (c ≠ "list")
  | _ => true
def Un.d (u : Un) : He.DefD := ⟨(u.name, none), u.name, u.qual, u.params, u.body, u.scope, [], []⟩
def facts (T : Tab) (us : List Un) : List He.Fa := T.bl.map .free ++ us.map (fun u => .glo u.name)
def ask (g : Addr → Option Obj) (n : Nat) : List Addr := (He.asD g n).filter fun a => match g a with
  | some o => notL o
  | none => false
abbrev Al : Type := He.AlD
def obsM (T : Tab) (us : List Un) (K : PySem.W.Frag) : Al := ((He.obsD (facts T us) (us.map Un.d) K).1 && (T.cs.all (conB K)), (He.obsD (facts T us) (us.map Un.d) K).2)
def obsMG (n : Nat) (T : Tab) (us : List Un) (g : Addr → Option Obj) : Al := obsM T us (He.frG g (ask g n))
theorem frG_mem {g : Addr → Option Obj} {a : Addr} {o : Obj} : ∀ as : List Addr, (He.frG g as).lookup a = some o → a ∈ as
  | [], e => nomatch (show (none : Option Obj) = some o from e)
  | b :: r, e => by
    unfold He.frG at e
    cases hb : g b with
    | none =>
      have e2 : (He.frG g r).lookup a = some o := by
        unfold He.frG
        rw [List.filterMap_cons, hb] at e
        exact e
      exact List.mem_cons_of_mem _ (frG_mem r e2)
    | some ob =>
      rw [List.filterMap_cons, hb] at e
      have e2 : (match a == b with | true => some ob | false => (He.frG g r).lookup a) = some o := e
      cases q : (a == b) with
      | true => rw [beq_iff_eq.mp q]; exact List.mem_cons_self
      | false =>
        rw [q] at e2
        exact List.mem_cons_of_mem _ (frG_mem r e2)
def hookM (n : Nat) (T : Tab) (us : List Un) : PySem.W.Hook where
  α := Al
  obs := fun s => obsMG n T us s.heap.get?
  val := fun _ => He.valD (us.map Un.d)
  says := fun _ h => ∃ K : PySem.W.Frag, K.In h ∧ (∀ a o, K.lookup a = some o → notL o = true) ∧ obsM T us K = He.valD (us.map Un.d)
  of := fun _ s e => ⟨_, He.frG_in, fun a o q => by
    have h1 := frG_mem _ q
    have h2 := He.frG_at _ q
    unfold ask at h1
    rw [List.mem_filter, h2] at h1
    exact h1.2, e⟩
  keeps := fun _ _ _ ⟨K, hK, c⟩ k => ⟨K, PySem.W.Frag.In.keeps hK k, c⟩
theorem obsMG_eq {n : Nat} {T : Tab} {us : List Un} {g : Addr → Option Obj} {s : Shared} (h : ∀ a, g a = s.heap.get? a) : obsMG n T us g = (hookM n T us).obs s := by
  have e : g = s.heap.get? := funext h
  rw [e] <;> rfl
def obM (n : Nat) (T : Tab) (us : List Un) (s : PySem.W.SharedT) : Al := obsMG n T us (HandSHeadRun.getT s)
theorem obM_eq (n : Nat) (T : Tab) (us : List Un) (s : PySem.W.SharedT) : obM n T us s = (hookM n T us).obs s.abs := obsMG_eq (HandSHeadRun.getT_eq s)

/-! ### the law -/
theorem relInts {g : G} {ι : Nat → Addr} {n : Nat} {H : Hp} : ∀ ns : List Int, RelDs g ι n H (ns.map D.int) (ns.map V.int)
  | [] => RelDs.nil
  | i :: ns => RelDs.cons (by rw [RelD]) (relInts ns)
def tyCk (y : Ty) : Bool := match y with
  | .tcls _ => false
  | .tbi _ => false
  | _ => true
theorem tyOk0 {g : G} {P : Prog} (hP : ∀ c, P.cl c = none) {y : Ty} (hy : tyCk y = true) (dt : DT) (hd : ∀ c, dt = .own c → P.cl c ≠ none) : TyOk g P dt y := by
  cases dt with
  | own c => exact absurd (hP c) (hd c rfl)
  | _ => cases y <;> first | rfl | (cases hy; done)
theorem walkM {l : PySem.W.OpenLaw} {q : Program} {loose : List Str} {XP : (Str → Option Value) → Heap → Prop} {dr : DefRec} {n d : Nat} {x : Str} {T : Tab} {P : Prog} {us : List Un} {lu : Un}
    (hm : l.most = some 63) (hdf : dr.params.defaults = []) (hr : Room d callerA) (hlu : lu ∈ us) (hln : lu.name = dr.name) (hps : lu.ps = [x])
    (hT : chkT T us = true) (hc : us.all (chkUn T P) = true) (hcl : ∀ c, P.cl c = none) (hty : T.ty.all tyCk = true)
    (hb : ∀ u ∈ us, ∀ (kV doc pm : Value) (an : Option Addr) (cdv ct : Value) (vs : List Value), vs.length = u.ps.length → bindArgs (PySem.W.fnOf u.name u.qual u.params u.body u.scope .none kV doc pm an cdv ct) ⟨vs, []⟩ = pure (u.ps.zip vs))
    (ev : ∀ ns : List Int, ns.length ≤ 63 → ∃ S', evFn P d lu.id [.ref 0] (S0 ns) = .ok (.bl true) S') :
    PySem.W.WalkO q loose XP (hookM n T us).says l.row.toRowW dr [] (fun f vs => PySem.call f vs) := by
  refine L2.walk_ofE (l := l) (n := 63) (k := d) (x := x) (CX := CX0) hm (by decide) hdf hr ?F (fun _ _ _ _ z => z)
  intro w mg fa h Y N hmg
  obtain ⟨K, KX, nl, c⟩ := Y
  let g : G := ⟨K, fun _ => 0⟩
  have c1 : ((facts T us).all fun f => f.ok K) = true ∧ ((us.map Un.d).all fun d => d.ok K) = true ∧ T.cs.all (conB K) = true := by
    have := congrArg (fun z : Al => z.1) c
    have h2 : ((((facts T us).all fun f => f.ok K) && ((us.map Un.d).all fun d => d.ok K)) && T.cs.all (conB K)) = true := this
    simp only [Bool.and_eq_true] at h2
    exact ⟨h2.1.1, h2.1.2, h2.2⟩
  have c2 : (us.map Un.d).map (fun d => He.fnW K d.at_) = (us.map Un.d).map He.DefD.val := congrArg (fun z : Al => z.2) c
  have glo : ∀ u ∈ us, mg u.name = some (.ref (He.ga K u.name)) := fun u hu =>
    He.glo_ok KX N (List.all_eq_true.mp c1.1 (.glo u.name) (List.mem_append_right _ (List.mem_map.mpr ⟨u, hu, rfl⟩)))
  have hok : ∀ u ∈ us, ∃ fd, UnOk K mg u (He.ga K u.name) fd := by
    intro u hu
    have hk : u.d.ok K = true := List.all_eq_true.mp c1.2.1 u.d (List.mem_map.mpr ⟨u, hu, rfl⟩)
    have he : He.fnW K u.d.at_ = u.d.val := by
      obtain ⟨i, hi, e⟩ := List.getElem_of_mem hu
      have e2 := congrArg (fun l => l[i]?) c2
      simp only [List.getElem?_map, List.getElem?_eq_getElem hi, e, Option.map_some, Option.some.injEq] at e2
      exact e2
    obtain ⟨fd, F⟩ := He.DefD.funD he hk
    have F' : FunD K u.name u.qual u.params u.body u.scope [] [] (He.ga K u.name) fd := F
    exact ⟨fd, F', glo u hu, F'.bindsN (hb u hu)⟩
  have st : Stat T P g mg := {
    con := fun p hp => conB_ok (g := g) KX N (List.all_eq_true.mp c1.2.2 p hp)
    bl := fun y hy => He.free_ok KX N (List.all_eq_true.mp c1.1 (.free y) (List.mem_append_left _ (List.mem_map.mpr ⟨y, hy, rfl⟩)))
    ty := fun y hy dt hd => tyOk0 hcl (List.all_eq_true.mp hty y hy) dt hd
    ci := fun c hc => absurd (hcl c) hc
    neq := fun c t e => by rw [hcl c] at e; cases e
    nin := fun c t e => by rw [hcl c] at e; cases e
    nix := fun c t e => by rw [hcl c] at e; cases e
    nst := fun c t e => by rw [hcl c] at e; cases e }
  obtain ⟨fd, U⟩ := hok lu hlu
  have ea := (glo lu hlu).symm.trans (hln ▸ hmg)
  have ea : He.ga K lu.name = fa := by simpa using ea
  have hF : ∀ base : Heap, FnOk l.prog w K mg base CX0 d fa fd [x] (spF g 1 (evFn P d lu.id)) := fun base => by
    have := all_ok (prog := l.prog) (w := w) (base := base) (g := g) (chkT_ok hT) (List.all_eq_true.mp hc) (fun u hu => ⟨_, hok u hu⟩) st d lu hlu _ fd U
    rw [hps, ea] at this
    exact this
  refine ⟨K, fd, spF g 1 (evFn P d lu.id), KX, fun s u => ?_, fun H a ns hl hO hS => ?_, fun base _ _ => hF base⟩
  · have := FunD.bindsA (ps := lu.ps) U.fn (hb lu hlu) s [u] (by rw [hps]; rfl)
    rw [hps] at this
    exact this
  · obtain ⟨S', e⟩ := ev ns hl
    have hfz : ∃ o, H a = some (.frz o (.lst (ns.map V.int))) := by
      rcases hS with (h1 | ⟨o, h1⟩) | ⟨o, its, k, h1, h2, _⟩
      · rcases hO a with h2 | ⟨o, xs, h2⟩
        · rw [h1] at h2; cases h2
        · rw [h1] at h2; cases h2
      · exact ⟨o, h1⟩
      · have h3 := nl a o h1
        unfold notL at h3
        rw [h2] at h3
        simp at h3
    refine ⟨fun _ => a, S0 ns, [.ref 0], ⟨fun i o e1 => ?_, fun i j hi hj _ => ?_, fun i hi => ?_⟩, ?_, rfl, ?_⟩
    · unfold S0 at e1
      simp only at e1
      split at e1
      · cases e1
        exact ⟨ns.map V.int, relInts ns, by rw [if_pos rfl]; exact hfz⟩
      · cases e1
    · have z : ∀ i, (S0 ns).get i ≠ none → i = 0 := fun i hi => by
        unfold S0 at hi
        simp only at hi
        split at hi
        · assumption
        · exact absurd rfl hi
      rw [z i hi, z j hj]
    · unfold S0 at hi ⊢
      simp only at hi ⊢
      split at hi
      · omega
      · exact absurd rfl hi
    · exact RelDs.cons (by rw [RelD]; exact ⟨Nat.zero_lt_one, rfl⟩) RelDs.nil
    · rw [e]
      exact fun ι' v H' _ r => r.bl_inv
end Lm

/-! What an evaluation reaches: rules from the left. -/
namespace Lm
def WP {α : Type} (r : R α) (Q : α → St → Prop) : Prop := match r with
  | .ok a s => Q a s
  | _ => False
theorem bnd_assoc {α β γ : Type} (r : R α) (f : α → St → R β) (g : β → St → R γ) : (r.bnd f).bnd g = r.bnd fun a s => (f a s).bnd g := by cases r <;> rfl
section
variable {α β : Type} {r : R α} {Q Q' : α → St → Prop}
@[simp] theorem wp_ok {a : α} {s : St} : WP (.ok a s) Q = Q a s := rfl
theorem WP.bnd {f : α → St → R β} {Q : β → St → Prop} (h : WP r fun a s => WP (f a s) Q) : WP (r.bnd f) Q := by cases r <;> exact h
theorem WP.mono (h : WP r Q) (w : ∀ a s, Q a s → Q' a s) : WP r Q' := by
  cases r with
  | ok a s => exact w a s h
  | exc _ _ => exact h
  | bad => exact h
/-- a part whose answer is known, what comes behind -/
theorem WP.step {f : α → St → R β} {Q : β → St → Prop} {Q' : α → St → Prop} (h : WP r Q') (w : ∀ a s, Q' a s → WP (f a s) Q) : WP (r.bnd f) Q := (h.mono w).bnd
theorem WP.get (h : WP r Q) : ∃ a s, r = .ok a s ∧ Q a s := by
  cases r with
  | ok a s => exact ⟨a, s, rfl, h⟩
  | exc _ _ => exact h.elim
  | bad => exact h.elim
end
section
variable {C : Cn} {ρ : Env} {S : St} {Q : F → St → Prop}
theorem wp_nil (h : Q (.nx ρ) S) : WP (evSs C .nil ρ S) Q := by rw [evSs]; exact h
theorem wp_cons {s : Lm.S} {r : Ss} (h : WP (evS C s ρ S) fun f S1 => match f with
    | .nx ρ1 => WP (evSs C r ρ1 S1) Q
    | .rt d => Q (.rt d) S1) : WP (evSs C (.cons s r) ρ S) Q := by
  rw [evSs]
  refine WP.bnd (h.mono fun f S1 q => ?_)
  cases f <;> exact q
theorem wp_iff0 {c : E} {a b : Ss} {Q' : Bool → St → Prop} (h : WP ((evE C c ρ S).bnd truth) Q') (ht : ∀ S1, Q' true S1 → WP (evSs C a ρ S1) Q) (hf : ∀ S1, Q' false S1 → WP (evSs C b ρ S1) Q) : WP (evS C (.iff c a b) ρ S) Q := by
  rw [evS]
  refine h.step fun t S1 q => ?_
  cases t with
  | true => exact ht S1 q
  | false => exact hf S1 q
/-- for: I what holds with these items left -/
theorem wp_frLoop {g : D → Env → St → R F} {src : List (Nat × O)} (I : List D → Env → St → Prop) (hs : ∀ xs ρ S, I xs ρ S → stands S src = true)
    (step : ∀ x r ρ S, I (x :: r) ρ S → WP (g x ρ S) fun f S1 => match f with
      | .nx ρ1 => I r ρ1 S1
      | .rt d => Q (.rt d) S1) (fin : ∀ ρ S, I [] ρ S → Q (.nx ρ) S) : ∀ xs ρ S, I xs ρ S → WP (frLoop g src xs ρ S) Q
  | [], ρ, S, h => by
    rw [frLoop, if_pos (hs _ _ _ h)]
    exact fin ρ S h
  | x :: r, ρ, S, h => by
    rw [frLoop, if_pos (hs _ _ _ h)]
    refine (step x r ρ S h).step fun f S1 q => ?_
    cases f with
    | nx ρ1 => exact wp_frLoop I hs step fin r ρ1 S1 q
    | rt d => exact q
end
/-- a comprehension: I what holds with these items left, these gathered -/
theorem wp_lcLoop {g : D → St → R (Option D)} {src : List (Nat × O)} {a : Nat} {Q : Unit → St → Prop} (I : List D → List D → St → Prop) (hs : ∀ xs acc S, I xs acc S → stands S src = true)
    (step : ∀ x r acc S, I (x :: r) acc S → WP (g x S) fun o S1 => match o with
      | some y => acc.length < lim ∧ S1.get a = some (.lst false acc) ∧ I r (acc ++ [y]) (S1.set a (.lst false (acc ++ [y])))
      | none => I r acc S1) (fin : ∀ acc S, I [] acc S → Q () S) : ∀ xs acc S, I xs acc S → WP (lcLoop g src a xs acc S) Q
  | [], acc, S, h => by
    rw [lcLoop]
    exact fin acc S h
  | x :: r, acc, S, h => by
    rw [lcLoop, if_pos (hs _ _ _ h)]
    refine (step x r acc S h).step fun o S1 q => ?_
    cases o with
    | some y =>
      simp only
      rw [if_pos ⟨q.1, q.2.1⟩]
      exact wp_lcLoop I hs step fin r _ _ q.2.2
    | none => exact wp_lcLoop I hs step fin r acc S1 q
/-- a call -/
def outF (Q : D → St → Prop) (f : F) (S1 : St) : Prop := match f with
      | .nx _ => Q .non S1
      | .rt v => Q v S1
theorem out_nx {Q : D → St → Prop} {ρ : Env} {S : St} : outF Q (.nx ρ) S = Q .non S := rfl
theorem out_rt {Q : D → St → Prop} {d : D} {S : St} : outF Q (.rt d) S = Q d S := rfl
theorem wp_fn {P : Prog} {d f : Nat} {Fn : FnT} {ds : List D} {S : St} {Q : D → St → Prop} {body : Ss} {ρ : Env} (hf : P.fn f = some Fn) (hl : ds.length = Fn.npar ∧ Fn.npar ≤ Fn.nsl) (hb : Fn.body = body) (hρ : ds.map some ++ List.replicate (Fn.nsl - Fn.npar) none = ρ)
    (h : WP (evSs ⟨P, evFn P d, fuel⟩ body ρ S) (outF Q)) : WP (evFn P (d + 1) f ds S) Q := by
  subst hb hρ
  rw [evFn, hf]
  simp only
  rw [if_pos hl]
  refine h.step fun f S1 q => ?_
  cases f <;> exact q
theorem wp_call {C : Cn} {f : Nat} {Fn : FnT} {ds : List D} {S : St} {Q : D → St → Prop} (hf : C.P.fn f = some Fn) (hl : ds.length = Fn.npar) (h : WP (C.call f ds S) Q) : WP (callD C f ds S) Q := by
  unfold callD
  rw [hf]
  simp only
  rw [if_pos hl]
  exact h
@[simp] theorem get_set {S : St} {a : Nat} {o : O} : (S.set a o).get a = some o := by simp [St.set]
theorem get_set_ne {S : St} {a b : Nat} {o : O} (h : b ≠ a) : (S.set a o).get b = S.get b := by simp [St.set, h]
@[simp] theorem n_set {S : St} {a : Nat} {o : O} : (S.set a o).n = S.n := rfl
@[simp] theorem n_push {S : St} {o : O} : (S.push o).n = S.n + 1 := rfl
@[simp] theorem get_push {S : St} {o : O} : (S.push o).get S.n = some o := by simp [St.push]
theorem get_push_ne {S : St} {b : Nat} {o : O} (h : b ≠ S.n) : (S.push o).get b = S.get b := by simp [St.push, h]
theorem set_set {S : St} {a : Nat} {o o' : O} : (S.set a o).set a o' = S.set a o' := by
  unfold St.set
  congr 1
  funext b
  by_cases h : b = a <;> simp [h]

/-! ### operations on known forms -/
theorem wp_bnd {α β : Type} {r : R α} {f : α → St → R β} {Q : β → St → Prop} : WP (r.bnd f) Q = WP r fun a s => WP (f a s) Q := by cases r <;> rfl
theorem wp_if {α : Type} {c : Prop} [Decidable c] {a b : R α} {Q : α → St → Prop} : WP (if c then a else b) Q = ((c → WP a Q) ∧ (¬ c → WP b Q)) := by
  by_cases h : c
  · rw [if_pos h]; simp [h]
  · rw [if_neg h]; simp [h]
theorem wp_ok' {α : Type} {c : Prop} [Decidable c] {a : R α} {Q : α → St → Prop} : WP (if c then a else .bad) Q = (c ∧ WP a Q) := by
  by_cases h : c
  · rw [if_pos h]; simp [h]
  · rw [if_neg h]; simp only [h, false_and]; rfl
theorem wp_bad {α : Type} {Q : α → St → Prop} : WP (.bad) Q = False := rfl
section
variable {C : Cn} {S : St}
def ixA (C : Cn) (o : Option O) (a : Nat) (i : D) (S : St) : R D := match o with
  | some (.lst _ ds) => (match i with
    | .int k => (match nthI ds k with
      | some d => .ok d S
      | none => .bad)
    | _ => .bad)
  | _ => opIx C (.ref a) i S
def ofO {α : Type} (o : Option α) (S : St) : R α := match o with
  | some d => .ok d S
  | none => .bad
theorem ofO_some {α : Type} {d : α} : ofO (some d) S = .ok d S := rfl
theorem ix_str {s : Txt} {k : Int} {Q : D → St → Prop} : WP (opIx C (.str s) (.int k) S) Q = ∃ c, nthI s k = some c ∧ s.length ≤ lim ∧ Q (.str [c]) S := by
  simp only [opIx]
  cases nthI s k with
  | none => simp [wp_bad]
  | some c => simp [wp_ok']
theorem ix_tup {ds : List D} {k : Int} : opIx C (.tup ds) (.int k) S = ofO (nthI ds k) S := by
  simp only [opIx, ofO]
  all_goals (cases nthI ds k <;> rfl)
theorem ix_ref {a : Nat} {i : D} : opIx C (.ref a) i S = ixA C (S.get a) a i S := by
  unfold ixA
  split
  · rename_i h
    simp only [opIx, h]
    all_goals rfl
  · rfl
theorem ixA_lst {a : Nat} {lk : Bool} {ds : List D} {k : Int} : ixA C (some (.lst lk ds)) a (.int k) S = ofO (nthI ds k) S := by
  unfold ixA ofO
  simp only
  cases nthI ds k <;> rfl
theorem nthI_nn {α : Type} {xs : List α} {i : Int} (h : 0 ≤ i) : nthI xs i = xs[i.toNat]? := by unfold nthI; rw [if_pos h]
theorem add_int {i j : Int} : opBin .add (.int i) (.int j) S = .ok (.int (i + j)) S := rfl
theorem sub_int {i j : Int} : opBin .sub (.int i) (.int j) S = .ok (.int (i - j)) S := rfl
theorem mul_int {i j : Int} {Q : D → St → Prop} : WP (opBin .mul (.int i) (.int j) S) Q = (((-(2 ^ 64) < i ∧ i < 2 ^ 64) ∨ (-(2 ^ 64) < j ∧ j < 2 ^ 64)) ∧ Q (.int (i * j)) S) := by
  simp only [opBin]; rw [wp_ok']; rfl
theorem fdiv_int {i j : Int} {Q : D → St → Prop} : WP (opBin .fdiv (.int i) (.int j) S) Q = ((0 < j ∧ j < 1073741824) ∧ Q (.int (i / j)) S) := by
  simp only [opBin]; rw [wp_ok']; rfl
theorem mod_int {i j : Int} {Q : D → St → Prop} : WP (opBin .mod (.int i) (.int j) S) Q = (0 < j ∧ Q (.int (i % j)) S) := by
  simp only [opBin]; rw [wp_ok']; rfl
theorem pow_int {i j : Int} {Q : D → St → Prop} : WP (opBin .pow (.int i) (.int j) S) Q = ((0 ≤ j ∧ j ≤ 1000000 ∧ i.natAbs < 2 ^ 64) ∧ Q (.int (i ^ j.toNat)) S) := by
  simp only [opBin]; rw [wp_ok']; rfl
theorem add_str {a b : Txt} {Q : D → St → Prop} : WP (opBin .add (.str a) (.str b) S) Q = (a.length + b.length ≤ lim ∧ Q (.str (a ++ b)) S) := by
  simp only [opBin]; rw [wp_ok']; rfl
theorem add_tup {a b : List D} {Q : D → St → Prop} : WP (opBin .add (.tup a) (.tup b) S) Q = (a.length + b.length ≤ lim ∧ Q (.tup (a ++ b)) S) := by
  simp only [opBin]; rw [wp_ok']; rfl
theorem lt_int {i j : Int} : opCmp C .lt (.int i) (.int j) S = .ok (.bl (decide (i < j))) S := rfl
theorem le_int {i j : Int} : opCmp C .le (.int i) (.int j) S = .ok (.bl (decide (i ≤ j))) S := rfl
theorem gt_int {i j : Int} : opCmp C .gt (.int i) (.int j) S = .ok (.bl (decide (j < i))) S := rfl
theorem ge_int {i j : Int} : opCmp C .ge (.int i) (.int j) S = .ok (.bl (decide (j ≤ i))) S := rfl
theorem eq_int {i j : Int} : opCmp C .eq (.int i) (.int j) S = .ok (.bl (decide (i = j))) S := by
  show R.ok (D.bl (i == j)) S = _
  rfl
theorem ne_int {i j : Int} : opCmp C .ne (.int i) (.int j) S = .ok (.bl (!decide (i = j))) S := rfl
theorem beq_dec {α : Type} [DecidableEq α] {a b : α} : (a == b) = decide (a = b) := rfl
theorem eq_str {a b : Txt} : opCmp C .eq (.str a) (.str b) S = .ok (.bl (decide (a = b))) S := by
  show R.ok (D.bl (a == b)) S = _
  congr 2
  rw [Bool.eq_iff_iff]; simp
theorem ne_str {a b : Txt} : opCmp C .ne (.str a) (.str b) S = .ok (.bl (!decide (a = b))) S := by
  show R.ok (D.bl (!(a == b))) S = _
  congr 3
  rw [Bool.eq_iff_iff]; simp
theorem eq_bl {a b : Bool} : opCmp C .eq (.bl a) (.bl b) S = .ok (.bl (a == b)) S := rfl
theorem ne_bl {a b : Bool} : opCmp C .ne (.bl a) (.bl b) S = .ok (.bl (!(a == b))) S := rfl
theorem isn_d {x y : D} : opCmp C .isn x y S = .ok (.bl (decide (x = .non))) S := rfl
theorem isnn_d {x y : D} : opCmp C .isnn x y S = .ok (.bl (!decide (x = .non))) S := rfl
theorem in_str {b : Txt} {c : Nat} : opCmp C .inn (.str [c]) (.str b) S = .ok (.bl (decide (c ∈ b))) S := rfl
theorem nin_str {b : Txt} {c : Nat} : opCmp C .nin (.str [c]) (.str b) S = .ok (.bl (!decide (c ∈ b))) S := rfl
theorem truth_bl {b : Bool} : truth (.bl b) S = .ok b S := rfl
theorem truth_int {i : Int} : truth (.int i) S = .ok (decide (i ≠ 0)) S := rfl
theorem truth_tup {ds : List D} : truth (.tup ds) S = .ok (!ds.isEmpty) S := rfl
theorem len_str {s : Txt} {Q : D → St → Prop} : WP (opBi .len [.str s] S) Q = (s.length ≤ lim ∧ Q (.int s.length) S) := by
  show WP (if _ then _ else _) Q = _
  rw [wp_ok']; rfl
theorem len_tup {ds : List D} : opBi .len [.tup ds] S = .ok (.int ds.length) S := rfl
def lenA (o : Option O) (S : St) : R D := match o with
  | some (.lst _ ds) => .ok (.int ds.length) S
  | some (.dct _ kvs) => .ok (.int kvs.length) S
  | _ => .bad
theorem len_ref {a : Nat} : opBi .len [.ref a] S = lenA (S.get a) S := by
  show bLen S (.ref a) = _
  simp only [bLen, lenA]
  all_goals (cases S.get a with
    | none => rfl
    | some o => cases o <;> rfl)
theorem lenA_lst {lk : Bool} {ds : List D} : lenA (some (.lst lk ds)) S = .ok (.int ds.length) S := rfl
theorem int_int {i : Int} : opBi .int [.int i] S = .ok (.int i) S := rfl
def setA (C : Cn) (o : Option O) (a : Nat) (i v : D) (S : St) : R Unit := match o with
  | some (.lst false ds) => (match i with
    | .int k => if 0 ≤ k ∧ k < ds.length then .ok () (S.set a (.lst false (ds.set k.toNat v))) else .bad
    | _ => .bad)
  | _ => opSet C (.ref a) i v S
theorem set_ref {a : Nat} {i v : D} : opSet C (.ref a) i v S = setA C (S.get a) a i v S := by
  unfold setA
  split
  · rename_i h
    simp only [opSet, h]
    all_goals rfl
  · rfl
theorem setA_lst {a : Nat} {ds : List D} {k : Int} {v : D} {Q : Unit → St → Prop} : WP (setA C (some (.lst false ds)) a (.int k) v S) Q = ((0 ≤ k ∧ k < ds.length) ∧ Q () (S.set a (.lst false (ds.set k.toNat v)))) := by
  unfold setA
  simp only
  rw [wp_ok']; rfl
end
/-! ### expressions, from the left: what each wants -/
section
variable {C : Cn} {ρ : Env} {S : St} {Q : D → St → Prop}
theorem wE_non : WP (evE C .non ρ S) Q = Q .non S := by rw [evE]; rfl
theorem wE_bl {b : Bool} : WP (evE C (.bl b) ρ S) Q = Q (.bl b) S := by rw [evE]; rfl
theorem wE_int {i : Int} : WP (evE C (.int i) ρ S) Q = Q (.int i) S := by rw [evE]; rfl
theorem wE_str {s : Txt} : WP (evE C (.str s) ρ S) Q = Q (.str s) S := by rw [evE]; rfl
theorem wE_glob {x : Txt} {d : D} : WP (evE C (.glob x d) ρ S) Q = Q d S := by rw [evE]; rfl
def varA (o : Option (Option D)) (S : St) : R D := match o with
  | some (some d) => .ok d S
  | _ => .bad
theorem varA_some {d : D} : WP (varA (some (some d)) S) Q = Q d S := rfl
theorem wE_var {i : Nat} : WP (evE C (.var i) ρ S) Q = WP (varA ρ[i]? S) Q := by rw [evE]; rfl
theorem wE_bin {o : Bin} {a b : E} : WP (evE C (.bin o a b) ρ S) Q = WP (evE C a ρ S) fun x S1 => WP (evE C b ρ S1) fun y S2 => WP (opBin o x y S2) Q := by
  rw [evE]; simp only [wp_bnd]
theorem wE_cmp {o : Cmp} {a b : E} : WP (evE C (.cmp o a b) ρ S) Q = WP (evE C a ρ S) fun x S1 => WP (evE C b ρ S1) fun y S2 => WP (opCmp C o x y S2) Q := by
  rw [evE]; simp only [wp_bnd]
def c2A (C : Cn) (d : D) (o' : Cmp) (y : D) (c : E) (ρ : Env) (S : St) : R D := match d with
    | .bl true => (evE C c ρ S).bnd fun z S4 => opCmp C o' y z S4
    | .bl false => .ok (.bl false) S
    | _ => .bad
theorem c2A_bl {b : Bool} {o' : Cmp} {y : D} {c : E} : WP (c2A C (.bl b) o' y c ρ S) Q = ((b = true → WP (evE C c ρ S) fun z S4 => WP (opCmp C o' y z S4) Q) ∧ (b = false → Q (.bl false) S)) := by
  cases b <;> simp [c2A, wp_bnd]
theorem wE_cmp2 {o o' : Cmp} {a b c : E} : WP (evE C (.cmp2 o o' a b c) ρ S) Q = WP (evE C a ρ S) fun x S1 => WP (evE C b ρ S1) fun y S2 => WP (opCmp C o x y S2) fun d S3 => WP (c2A C d o' y c ρ S3) Q := by
  rw [evE]; simp only [wp_bnd]
  rfl
theorem wE_ix {a b : E} : WP (evE C (.ix a b) ρ S) Q = WP (evE C a ρ S) fun x S1 => WP (evE C b ρ S1) fun y S2 => WP (opIx C x y S2) Q := by
  rw [evE]; simp only [wp_bnd]
theorem wE_bi {o : Bi} {es : Es} : WP (evE C (.bi o es) ρ S) Q = WP (evEs C es ρ S) fun ds S1 => WP (opBi o ds S1) Q := by rw [evE]; simp only [wp_bnd]
theorem wE_cal {f : Nat} {es : Es} : WP (evE C (.cal f es) ρ S) Q = WP (evEs C es ρ S) fun ds S1 => WP (callD C f ds S1) Q := by rw [evE]; simp only [wp_bnd]
theorem wE_tup {es : Es} : WP (evE C (.tup es) ρ S) Q = WP (evEs C es ρ S) fun ds S1 => ds.length ≤ lim ∧ Q (.tup ds) S1 := by
  rw [evE]; simp only [wp_bnd, wp_ok', wp_ok]
theorem wE_lst {es : Es} : WP (evE C (.lst es) ρ S) Q = WP (evEs C es ρ S) fun ds S1 => ds.length ≤ lim ∧ Q (.ref S1.n) (S1.push (.lst false ds)) := by
  rw [evE]; simp only [wp_bnd, wp_ok', wp_ok]
theorem wE_nt {a : E} : WP (evE C (.nt a) ρ S) Q = WP (evE C a ρ S) fun x S1 => WP (truth x S1) fun b S2 => Q (.bl (!b)) S2 := by
  rw [evE]; simp only [wp_bnd, wp_ok]
theorem wEs_nil {Q : List D → St → Prop} : WP (evEs C .nil ρ S) Q = Q [] S := by rw [evEs]; rfl
theorem wEs_cons {e : E} {r : Es} {Q : List D → St → Prop} : WP (evEs C (.cons e r) ρ S) Q = WP (evE C e ρ S) fun x S1 => WP (evEs C r ρ S1) fun xs S2 => Q (x :: xs) S2 := by
  rw [evEs]; simp only [wp_bnd, wp_ok]
theorem wBo_one {c : Bool} {a : E} : WP (evBo C c (.cons a .nil) ρ S) Q = WP (evE C a ρ S) Q := by rw [evBo]
theorem wBo_cons {c : Bool} {a b : E} {r : Es} : WP (evBo C c (.cons a (.cons b r)) ρ S) Q = WP (evE C a ρ S) fun x S1 => WP (truth x S1) fun t S2 => (t = c → WP (evBo C c (.cons b r) ρ S2) Q) ∧ (¬ t = c → Q x S2) := by
  rw [evBo]
  · simp only [wp_bnd, wp_if, wp_ok]
  · intro z; cases z
theorem wE_boo {c : Bool} {es : Es} : WP (evE C (.boo c es) ρ S) Q = WP (evBo C c es ρ S) Q := by rw [evE]
theorem wE_ite {c a b : E} : WP (evE C (.ite c a b) ρ S) Q = WP (evE C c ρ S) fun x S1 => WP (truth x S1) fun t S2 => (t = true → WP (evE C a ρ S2) Q) ∧ (¬ t = true → WP (evE C b ρ S2) Q) := by
  rw [evE]; simp only [wp_bnd, wp_if]
theorem wE_sl {a : E} {lo hi : Oe} : WP (evE C (.sl a lo hi) ρ S) Q = WP (evE C a ρ S) fun x S1 => WP (evO C lo ρ S1) fun l S2 => WP (evO C hi ρ S2) fun u S3 => WP (opSl x l u S3) Q := by
  rw [evE]; simp only [wp_bnd]
theorem wO_no {Q : Option Int → St → Prop} : WP (evO C .no ρ S) Q = Q none S := by rw [evO]; rfl
def ofI (x : D) (S : St) : R (Option Int) := match x with
    | .int i => .ok (some i) S
    | _ => .bad
theorem ofI_int {i : Int} {Q : Option Int → St → Prop} : WP (ofI (.int i) S) Q = Q (some i) S := rfl
theorem wO_so {e : E} {Q : Option Int → St → Prop} : WP (evO C (.so e) ρ S) Q = WP (evE C e ρ S) fun x S1 => WP (ofI x S1) Q := by
  rw [evO]; simp only [wp_bnd]; rfl
theorem wE_isi {a : E} {ts : List Ty} : WP (evE C (.isi a ts) ρ S) Q = WP (evE C a ρ S) fun x S1 => WP (ofO (dty C.P S1 x) S1) fun t S2 => Q (.bl (ts.any (isDT C.P t))) S2 := by
  rw [evE]; simp only [wp_bnd]
  congr 1
  funext x S1
  cases dty C.P S1 x <;> rfl
theorem wE_bm {m : Bm} {o : E} {es : Es} : WP (evE C (.bm m o es) ρ S) Q = WP (evE C o ρ S) fun x S1 => isRecv m x S1 = true ∧ WP (evEs C es ρ S1) fun ds S2 => WP (opBm m x ds S2) Q := by
  rw [evE]; simp only [wp_bnd, wp_ok']
end
section
variable {C : Cn} {ρ : Env} {S : St} {Q : F → St → Prop}
def thenF (C : Cn) (r : Ss) (Q : F → St → Prop) (f : F) (S : St) : Prop := match f with
    | .nx ρ1 => WP (evSs C r ρ1 S) Q
    | .rt d => Q (.rt d) S
theorem then_nx {r : Ss} : thenF C r Q (.nx ρ) S = WP (evSs C r ρ S) Q := rfl
theorem then_rt {r : Ss} {d : D} : thenF C r Q (.rt d) S = Q (.rt d) S := rfl
theorem wSs_nil : WP (evSs C .nil ρ S) Q = Q (.nx ρ) S := by rw [evSs]; rfl
theorem wSs_cons {s : Lm.S} {r : Ss} : WP (evSs C (.cons s r) ρ S) Q = WP (evS C s ρ S) (thenF C r Q) := by
  rw [evSs]; simp only [wp_bnd]
  congr 1
  funext f S1
  cases f <;> rfl
theorem wS_asg {i : Nat} {e : E} : WP (evS C (.asg (.n i) e) ρ S) Q = WP (evE C e ρ S) fun d S1 => Q (.nx (ρ.set i (some d))) S1 := by
  have e : ∀ d S1, asgV (.n i) d ρ S1 = some (ρ.set i (some d)) := fun d S1 => by cases d <;> rfl
  rw [evS]; simp only [wp_bnd, e, wp_ok]
theorem wS_asgT {ts : Tgs} {e : E} : WP (evS C (.asg (.t ts) e) ρ S) Q = WP (evE C e ρ S) fun d S1 => WP (ofO (asgV (.t ts) d ρ S1) S1) fun ρ1 S2 => Q (.nx ρ1) S2 := by
  rw [evS]; simp only [wp_bnd]
  congr 1
  funext d S1
  cases asgV (.t ts) d ρ S1 <;> rfl
theorem wS_asgS {a i e : E} : WP (evS C (.asgS a i e) ρ S) Q = WP (evE C e ρ S) fun v S1 => WP (evE C a ρ S1) fun x S2 => WP (evE C i ρ S2) fun k S3 => WP (opSet C x k v S3) fun _ S4 => Q (.nx ρ) S4 := by
  rw [evS]; simp only [wp_bnd, wp_ok]
theorem wS_ret {e : E} : WP (evS C (.ret e) ρ S) Q = WP (evE C e ρ S) fun d S1 => Q (.rt d) S1 := by rw [evS]; simp only [wp_bnd, wp_ok]
theorem wS_retN : WP (evS C .retN ρ S) Q = Q (.rt .non) S := by rw [evS]; rfl
theorem wS_pas : WP (evS C .pas ρ S) Q = Q (.nx ρ) S := by rw [evS]; rfl
theorem wS_ex {e : E} : WP (evS C (.ex e) ρ S) Q = WP (evE C e ρ S) fun d S1 => Q (.nx ρ) S1 := by rw [evS]; simp only [wp_bnd, wp_ok]
theorem wS_iff {c : E} {a b : Ss} : WP (evS C (.iff c a b) ρ S) Q = WP (evE C c ρ S) fun x S1 => WP (truth x S1) fun t S2 => (t = true → WP (evSs C a ρ S2) Q) ∧ (¬ t = true → WP (evSs C b ρ S2) Q) := by
  rw [evS]; simp only [wp_bnd, wp_if]
def frG (C : Cn) (t : Tg) (b : Ss) (x : D) (ρ1 : Env) (S2 : St) : R F := (ofO (asgT t x ρ1) S2).bnd fun ρ2 S2 => evSs C b ρ2 S2
theorem wS_fr {t : Tg} {i : It} {b : Ss} : WP (evS C (.fr t i b) ρ S) Q = WP (evI C i ρ S) fun p S1 => WP (frLoop (frG C t b) p.2 p.1 ρ S1) Q := by
  rw [evS]; simp only [wp_bnd]
  congr 1
  funext p S1
  congr 2
  funext x ρ1 S2
  unfold frG
  cases asgT t x ρ1 <;> rfl
end
section
variable {C : Cn} {ρ : Env} {S : St} {Q : List D × List (Nat × O) → St → Prop}
def rngA (x : D) (S : St) : R (List D × List (Nat × O)) := match x with
    | .int j => if -(2 ^ 62) ≤ j ∧ j < 2 ^ 62 then .ok ((List.range j.toNat).map fun (k : Nat) => D.int (k : Int), []) S else .bad
    | _ => .bad
theorem rngA_int {j : Int} : WP (rngA (.int j) S) Q = ((-4611686018427387904 ≤ j ∧ j < 4611686018427387904) ∧ Q ((List.range j.toNat).map fun (k : Nat) => D.int (k : Int), []) S) := by
  unfold rngA
  simp only
  rw [wp_ok']; rfl
theorem wI_rng1 {a : E} : WP (evI C (.rng1 a) ρ S) Q = WP (evE C a ρ S) fun x S1 => WP (rngA x S1) Q := by
  rw [evI]; simp only [wp_bnd]
  rfl
theorem wI_val {e : E} : WP (evI C (.val e) ρ S) Q = WP (evE C e ρ S) fun x S1 => WP (ofO (itemsOf x S1) S1) Q := by
  rw [evI]; simp only [wp_bnd]
  congr 1
  funext x S1
  cases itemsOf x S1 <;> rfl
theorem wI_zip {a b : E} : WP (evI C (.zip a b) ρ S) Q = WP (evE C a ρ S) fun x S1 => WP (evE C b ρ S1) fun y S2 => WP (ofO (zipItems x y S2) S2) Q := by
  rw [evI]; simp only [wp_bnd]
  congr 1
  funext x S1
  congr 1
  funext y S2
  cases zipItems x y S2 <;> rfl
end
def lcG (C : Cn) (e : E) (t : Tg) (ifs : Es) (own : List Nat) (ρ : Env) (x : D) (S2 : St) : R (Option D) := (ofO (asgT t x (wipe ρ own)) S2).bnd fun ρ1 S2 => (evIfs C ifs ρ1 S2).bnd fun b S3 => if b then (evE C e ρ1 S3).bnd fun y S4 => .ok (some y) S4 else .ok none S3
theorem wE_lc {C : Cn} {e : E} {t : Tg} {i : It} {ifs : Es} {own : List Nat} {ρ : Env} {S : St} {Q : D → St → Prop} : WP (evE C (.lc e t i ifs own) ρ S) Q = WP (evI C i ρ S) fun p S1 => WP (lcLoop (lcG C e t ifs own ρ) p.2 S1.n p.1 [] (S1.push (.lst false []))) fun _ S5 => stands S5 p.2 = true ∧ Q (.ref S1.n) S5 := by
  rw [evE]; simp only [wp_bnd, wp_ok', wp_ok]
  congr 1
  funext p S1
  have e : (fun (x : D) (S2 : St) => match asgT t x (wipe ρ own) with
        | some ρ1 => (evIfs C ifs ρ1 S2).bnd fun b S3 => if b then (evE C e ρ1 S3).bnd fun y S4 => R.ok (some y) S4 else .ok none S3
        | none => .bad) = lcG C e t ifs own ρ := by
    funext x S2
    unfold lcG
    cases asgT t x (wipe ρ own) <;> rfl
  rw [← e]
  all_goals rfl
/-- a turn with no test -/
theorem lcG0 {C : Cn} {e : E} {t : Tg} {own : List Nat} {ρ : Env} {x : D} {S : St} {Q : Option D → St → Prop} : WP (lcG C e t .nil own ρ x S) Q = WP (ofO (asgT t x (wipe ρ own)) S) fun ρ1 S => WP (evE C e ρ1 S) fun y S4 => Q (some y) S4 := by
  unfold lcG
  rw [wp_bnd]
  congr 1
  funext ρ1 S
  rw [evIfs, R.bnd_ok, if_pos rfl, wp_bnd]; rfl
/-- a turn with one test -/
theorem lcG1 {C : Cn} {e c : E} {t : Tg} {own : List Nat} {ρ : Env} {x : D} {S : St} {Q : Option D → St → Prop} : WP (lcG C e t (.cons c .nil) own ρ x S) Q = WP (ofO (asgT t x (wipe ρ own)) S) fun ρ1 S =>
    WP (evE C c ρ1 S) fun x S1 => WP (truth x S1) fun t S2 => (t = true → WP (evE C e ρ1 S2) fun y S4 => Q (some y) S4) ∧ (¬ t = true → Q none S2) := by
  unfold lcG
  rw [wp_bnd]
  congr 1
  funext ρ1 S
  rw [evIfs]
  simp only [wp_bnd]
  congr 1
  funext x S1
  congr 1
  funext t S2
  cases t <;> simp [evIfs, wp_bnd]
/-- if not e: return False -/
theorem wS_chk {C : Cn} {e : E} {r : Ss} {ρ : Env} {S : St} {Q : F → St → Prop} (J : St → Prop) (h : WP (evE C e ρ S) fun d S' => d = .bl true ∧ J S') (k : ∀ S', J S' → WP (evSs C r ρ S') Q) :
    WP (evSs C (.cons (.iff (.nt e) (.cons (.ret (.bl false)) .nil) .nil) r) ρ S) Q := by
  rw [wSs_cons, wS_iff, wE_nt]
  refine h.mono ?_
  rintro _ S' ⟨rfl, j⟩
  rw [truth_bl, wp_ok, Bool.not_true, truth_bl, wp_ok]
  refine ⟨fun z => (by cases z), fun _ => ?_⟩
  rw [wSs_nil, then_nx]
  exact k S' j
theorem call_eq {P : Prog} {f : Nat} {Fn : FnT} {call : Nat → List D → St → R D} {w : Nat} {ds : List D} {S : St} (hf : P.fn f = some Fn) : callD ⟨P, call, w⟩ f ds S = if ds.length = Fn.npar then call f ds S else .bad := by
  unfold callD
  simp only [hf]
theorem wp_eq {α : Type} {r : R α} {a : α} {s : St} (h : WP r fun x t => x = a ∧ t = s) : r = .ok a s := by
  cases r with
  | ok x t => obtain ⟨rfl, rfl⟩ := h; rfl
  | exc _ _ => exact h.elim
  | bad => exact h.elim
theorem push_set {S : St} {o o' : O} : (S.push o).set S.n o' = S.push o' := by
  unfold St.set St.push
  congr 1
  funext b
  by_cases h : b = S.n <;> simp [h]
/-- a comprehension whose turns leave the store as it is -/
theorem lc_map {g : D → St → R (Option D)} {src : List (Nat × O)} {S : St} (f : D → D) (hs : ∀ acc, stands (S.push (.lst false acc)) src = true) : ∀ (xs acc : List D), (∀ x ∈ xs, ∀ acc, WP (g x (S.push (.lst false acc))) fun o S' => o = some (f x) ∧ S' = S.push (.lst false acc)) →
    acc.length + xs.length ≤ lim → lcLoop g src S.n xs acc (S.push (.lst false acc)) = .ok () (S.push (.lst false (acc ++ xs.map f)))
  | [], acc, _, _ => by rw [lcLoop]; simp
  | x :: xs, acc, h, hl => by
    rw [lcLoop, if_pos (hs acc), wp_eq (h x List.mem_cons_self acc)]
    simp only [R.bnd_ok, get_push, push_set]
    rw [if_pos ⟨by simp at hl; omega, trivial⟩, lc_map f hs xs (acc ++ [f x]) (fun y hy => h y (List.mem_cons_of_mem _ hy)) (by simp at hl ⊢; omega)]
    simp
/-- a comprehension by an invariant J of the store, p of its items -/
theorem lc_all {g : D → St → R (Option D)} {src : List (Nat × O)} {a0 : Nat} {Q : Unit → St → Prop} (J : St → Prop) (p : D → Prop) (hs : ∀ S, J S → stands S src = true) (hset : ∀ S o, J S → J (S.set a0 o)) : ∀ (xs acc : List D) (S : St),
    (∀ x ∈ xs, ∀ S acc, J S → S.get a0 = some (.lst false acc) → WP (g x S) fun o S' => ∃ y, o = some y ∧ p y ∧ J S' ∧ S'.get a0 = some (.lst false acc)) →
    J S → S.get a0 = some (.lst false acc) → (∀ y ∈ acc, p y) → acc.length + xs.length ≤ lim → (∀ S' ds, J S' → S'.get a0 = some (.lst false ds) → ds.length = acc.length + xs.length → (∀ y ∈ ds, p y) → Q () S') → WP (lcLoop g src a0 xs acc S) Q
  | [], acc, S, _, hj, ha, hp, _, k => by
    rw [lcLoop]
    exact k S acc hj ha (by simp) hp
  | x :: xs, acc, S, hg, hj, ha, hp, hl, k => by
    rw [lcLoop, if_pos (hs S hj)]
    refine (hg x List.mem_cons_self S acc hj ha).step ?_
    rintro o S' ⟨y, rfl, py, hj', ha'⟩
    simp only
    simp only [List.length_cons] at hl k
    rw [if_pos ⟨by omega, ha'⟩]
    refine lc_all J p hs hset xs (acc ++ [y]) _ (fun x hx => hg x (List.mem_cons_of_mem _ hx)) (hset _ _ hj') get_set (fun z hz => ?_) (by simp; omega) (fun S'' ds h1 h2 h3 h4 => k S'' ds h1 h2 (by simp at h3; omega) h4)
    rcases List.mem_append.mp hz with h | h
    · exact hp z h
    · simp at h; rw [h]; exact py
theorem chars_of {q : Nat → Prop} : ∀ {ds : List D}, (∀ y ∈ ds, ∃ c, q c ∧ y = .str [c]) → ∃ w : Txt, ds = w.map (fun c => .str [c]) ∧ ∀ c ∈ w, q c
  | [], _ => ⟨[], rfl, fun c hc => absurd hc (by simp)⟩
  | y :: ds, h => by
    obtain ⟨c, hc, rfl⟩ := h y List.mem_cons_self
    obtain ⟨w, rfl, hw⟩ := chars_of fun z hz => h z (List.mem_cons_of_mem _ hz)
    refine ⟨c :: w, rfl, fun z hz => ?_⟩
    rcases List.mem_cons.mp hz with e | hz
    · rw [e]; exact hc
    · exact hw z hz
theorem txts_strs : ∀ ws : List Txt, txts (ws.map D.str) = some ws
  | [] => rfl
  | w :: ws => by rw [List.map_cons, txts, txts_strs ws]; rfl
theorem joinT_nil : ∀ ws : List Txt, joinT [] ws = ws.flatten
  | [] => rfl
  | [w] => by simp [joinT]
  | w :: v :: ws => by rw [joinT, joinT_nil (v :: ws)]; simp; intro h; cases h
theorem join_chars {S : St} {a : Nat} {lk : Bool} {w : Txt} (h : S.get a = some (.lst lk (w.map fun c => .str [c]))) (hl : w.length ≤ lim) : opBm .join (.str []) [.ref a] S = .ok (.str w) S := by
  show mJoin S (.str []) (.ref a) = _
  have e : (w.map fun c => D.str [c]) = (w.map fun c => [c]).map D.str := by rw [List.map_map]; rfl
  have e2 : ((w.map fun c => [c]).map List.length).sum + (w.map fun c => [c]).length * ([] : Txt).length ≤ lim := by
    rw [List.map_map, List.length_nil, Nat.mul_zero, Nat.add_zero]
    have : (w.map (List.length ∘ fun c => [c])).sum = w.length := by
      clear h hl e
      induction w with
      | nil => rfl
      | cons c w ih => simp [ih]; omega
    rw [this]; exact hl
  simp only [mJoin, asLst, h, Option.bind_some]
  rw [e, txts_strs]
  simp only
  rw [if_pos e2, joinT_nil]
  congr 2
  clear h hl e e2
  induction w with
  | nil => rfl
  | cons c w ih => simp [ih]
theorem cut_to {α : Type} {xs : List α} {i : Int} (h0 : 0 ≤ i) : cut xs none (some i) = xs.take i.toNat := by
  unfold cut bnd
  simp only [List.drop_zero, Nat.sub_zero]
  rw [if_neg (by omega)]
  by_cases h : i.toNat ≤ xs.length
  · rw [Nat.min_eq_left h]
  · rw [Nat.min_eq_right (by omega), List.take_of_length_le (Nat.le_refl _), List.take_of_length_le (by omega)]
theorem cut_from {α : Type} {xs : List α} {i : Int} (h0 : 0 ≤ i) : cut xs (some i) none = xs.drop i.toNat := by
  unfold cut bnd
  simp only
  rw [if_neg (by omega)]
  by_cases h : i.toNat ≤ xs.length
  · rw [Nat.min_eq_left h, List.take_of_length_le (by simp)]
  · rw [Nat.min_eq_right (by omega), List.drop_of_length_le (Nat.le_refl _), List.drop_of_length_le (by omega), List.take_nil]
theorem sl_str {S : St} {s : Txt} {lo hi : Option Int} {Q : D → St → Prop} : WP (opSl (.str s) lo hi S) Q = (s.length ≤ lim ∧ Q (.str (cut s lo hi)) S) := by
  show WP (if _ then _ else _) Q = _
  rw [wp_ok']; rfl
theorem all_bl {S : St} {a : Nat} {lk : Bool} {α : Type} {xs : List α} {p : α → Bool} (h : S.get a = some (.lst lk (xs.map fun x => .bl (p x)))) : opBi .all [.ref a] S = .ok (.bl (xs.all p)) S := by
  show bAll S (.ref a) = _
  have e : ((xs.map fun x => D.bl (p x)).all isBl) = true := List.all_eq_true.mpr fun x hx => by obtain ⟨y, _, rfl⟩ := List.mem_map.mp hx; rfl
  have e2 : ((xs.map fun x => D.bl (p x)).all blOf) = xs.all p := by rw [List.all_map]; rfl
  simp only [bAll, lstOf, h, Option.bind_some, allB, e, e2, if_true]
/-! ### stores that grow -/
structure Ext (S S' : St) : Prop where
  n : S.n ≤ S'.n
  get : ∀ a, a < S.n → S'.get a = S.get a
theorem Ext.refl {S : St} : Ext S S := ⟨Nat.le_refl _, fun _ _ => rfl⟩
theorem Ext.trans {S S' S'' : St} (h : Ext S S') (k : Ext S' S'') : Ext S S'' := ⟨Nat.le_trans h.n k.n, fun a ha => (k.get a (Nat.lt_of_lt_of_le ha h.n)).trans (h.get a ha)⟩
theorem Ext.push {S : St} {o : O} : Ext S (S.push o) := ⟨Nat.le_succ _, fun a ha => get_push_ne (Nat.ne_of_lt ha)⟩
theorem Ext.set {S S' : St} {a : Nat} {o : O} (h : Ext S S') (ha : S.n ≤ a) : Ext S (S'.set a o) := ⟨h.n, fun b hb => by rw [get_set_ne (by omega)]; exact h.get b hb⟩
/-! ### a value read as data -/
mutual
def Sees (S : St) : D → D → Prop
  | .tup vs, x => ∃ ds, x = .tup ds ∧ SeesL S vs ds
  | .lst vs, x => ∃ a lk ds, x = .ref a ∧ a < S.n ∧ S.get a = some (.lst lk ds) ∧ SeesL S vs ds
  | .ref _, _ => False
  | .cls _, _ => False
  | .non, x => x = .non
  | .bl b, x => x = .bl b
  | .int i, x => x = .int i
  | .str s, x => x = .str s
def SeesL (S : St) : List D → List D → Prop
  | [], ds => ds = []
  | v :: vs, ds => ∃ d r, ds = d :: r ∧ Sees S v d ∧ SeesL S vs r
end
section
variable {S S' : St}
mutual
theorem Sees.ext (e : Ext S S') : ∀ (v x : D), Sees S v x → Sees S' v x
  | .tup vs, x, h => by
    rw [Sees] at h ⊢
    obtain ⟨ds, h1, h2⟩ := h
    exact ⟨ds, h1, SeesL.ext e vs ds h2⟩
  | .lst vs, x, h => by
    rw [Sees] at h ⊢
    obtain ⟨a, lk, ds, h1, h2, h3, h4⟩ := h
    exact ⟨a, lk, ds, h1, Nat.lt_of_lt_of_le h2 e.n, (e.get a h2).trans h3, SeesL.ext e vs ds h4⟩
  | .ref _, x, h => by rw [Sees] at h; exact h.elim
  | .cls _, x, h => by rw [Sees] at h; exact h.elim
  | .non, x, h => by rw [Sees] at h ⊢; exact h
  | .bl b, x, h => by rw [Sees] at h ⊢; exact h
  | .int i, x, h => by rw [Sees] at h ⊢; exact h
  | .str s, x, h => by rw [Sees] at h ⊢; exact h
theorem SeesL.ext (e : Ext S S') : ∀ (vs xs : List D), SeesL S vs xs → SeesL S' vs xs
  | [], xs, h => by rw [SeesL] at h ⊢; exact h
  | v :: vs, xs, h => by
    rw [SeesL] at h ⊢
    obtain ⟨d, r, h1, h2, h3⟩ := h
    exact ⟨d, r, h1, Sees.ext e v d h2, SeesL.ext e vs r h3⟩
end
theorem SeesL.len : ∀ {vs xs : List D}, SeesL S vs xs → vs.length = xs.length
  | [], xs, h => by rw [SeesL] at h; rw [h]
  | v :: vs, xs, h => by
    rw [SeesL] at h
    obtain ⟨d, r, rfl, _, h2⟩ := h
    simp [SeesL.len h2]
mutual
theorem sees_pure : ∀ v : D, v.rng = true → (∀ ds, v ≠ .lst ds) → D.dep v ≤ 0 → Sees S v v
  | .non, _, _, _ => by rw [Sees]
  | .bl _, _, _, _ => by rw [Sees]
  | .int _, _, _, _ => by rw [Sees]
  | .str _, _, _, _ => by rw [Sees]
  | .tup _, _, _, h => by rw [D.dep] at h; omega
  | .lst ds, _, h, _ => absurd rfl (h ds)
  | .ref _, h, _, _ => by rw [D.rng] at h; cases h
  | .cls _, h, _, _ => by rw [D.rng] at h; cases h
end
theorem SeesL.strs : ∀ ss : List Txt, SeesL S (ss.map D.str) (ss.map D.str)
  | [] => by rw [List.map_nil, SeesL]
  | s :: ss => by
    rw [List.map_cons, SeesL]
    exact ⟨_, _, rfl, by rw [Sees], SeesL.strs ss⟩
theorem SeesL.ints : ∀ ss : List Int, SeesL S (ss.map D.int) (ss.map D.int)
  | [] => by rw [List.map_nil, SeesL]
  | s :: ss => by
    rw [List.map_cons, SeesL]
    exact ⟨_, _, rfl, by rw [Sees], SeesL.ints ss⟩
end
mutual
/-- the longest sequence within -/
def D.sz : D → Nat
  | .tup ds => max ds.length (D.szs ds)
  | .lst ds => max ds.length (D.szs ds)
  | _ => 0
def D.szs : List D → Nat
  | [] => 0
  | a :: as => max (D.sz a) (D.szs as)
end
end Lm

/-! The laws own helpers: the bag of numbers drawn from the script. -/
namespace Lm
def f_law_bag : FnT := ⟨1, 1, [], (.cons (.ret (.lst (.cons (.bi .list (.cons (.sl (.var 0) .no (.so (.int 63))) .nil)) (.cons (.int 0) (.cons (.int 0) (.cons (.int 12005) (.cons (.int 0) .nil))))))) .nil)⟩
def f_law_draw : FnT := ⟨2, 5, [], (.cons (.asgS (.var 0) (.int 4) (.bin .add (.ix (.var 0) (.int 4)) (.int 1))) (.cons (.iff (.boo true (.cons (.cmp .eq (.ix (.var 0) (.int 2)) (.int 0)) (.cons (.cmp .lt (.ix (.var 0) (.int 1)) (.bi .len (.cons (.ix (.var 0) (.int 0)) .nil))) .nil))) (.cons (.asg (.n 2) (.ix (.ix (.var 0) (.int 0)) (.ix (.var 0) (.int 1)))) (.cons (.asgS (.var 0) (.int 1) (.bin .add (.ix (.var 0) (.int 1)) (.int 1))) (.cons (.iff (.cmp .ge (.var 2) (.bin .pow (.int 10) (.int 18))) (.cons (.asgS (.var 0) (.int 2) (.var 2)) .nil) .nil) (.cons (.asgS (.var 0) (.int 3) (.bin .mod (.bi .int (.cons (.bin .add (.bin .add (.bin .mul (.ix (.var 0) (.int 3)) (.int 52391)) (.bin .mul (.bin .mod (.bi .int (.cons (.var 2) .nil)) (.int 2147480197)) (.int 641))) (.int 31)) .nil)) (.int 2147483563))) .nil)))) .nil) (.cons (.iff (.cmp .gt (.ix (.var 0) (.int 2)) (.int 0)) (.cons (.asg (.n 3) (.bin .mod (.bi .int (.cons (.ix (.var 0) (.int 2)) .nil)) (.var 1))) (.cons (.asgS (.var 0) (.int 2) (.bin .fdiv (.bi .int (.cons (.ix (.var 0) (.int 2)) .nil)) (.var 1))) (.cons (.ret (.var 3)) .nil))) .nil) (.cons (.asg (.n 4) (.ix (.var 0) (.int 3))) (.cons (.asgS (.var 0) (.int 3) (.bin .mod (.bi .int (.cons (.bin .add (.bin .add (.bin .add (.bin .pow (.var 4) (.int 3)) (.bin .mul (.var 4) (.int 39373))) (.bin .mul (.ix (.var 0) (.int 4)) (.int 1400159))) (.int 70001)) .nil)) (.int 2147483563))) (.cons (.ret (.bin .mod (.bi .int (.cons (.bin .add (.bin .fdiv (.ix (.var 0) (.int 3)) (.int 89)) (.bin .mul (.bin .mod (.bi .int (.cons (.ix (.var 0) (.int 3)) .nil)) (.int 8111)) (.int 61))) .nil)) (.var 1))) .nil))))))⟩
def f_law_of : FnT := ⟨2, 2, [], (.cons (.ret (.ix (.var 1) (.cal 1 (.cons (.var 0) (.cons (.bi .len (.cons (.var 1) .nil)) .nil))))) .nil)⟩
def f_law_same : FnT := ⟨2, 4, [], (.cons (.iff (.isi (.var 1) [.tlist, .ttuple]) (.cons (.iff (.boo false (.cons (.cmp .ne (.isi (.var 0) [.tlist]) (.isi (.var 1) [.tlist])) (.cons (.cmp .ne (.isi (.var 0) [.ttuple]) (.isi (.var 1) [.ttuple])) .nil))) (.cons (.ret (.bl false)) .nil) .nil) (.cons (.ret (.boo true (.cons (.cmp .eq (.bi .len (.cons (.var 0) .nil)) (.bi .len (.cons (.var 1) .nil))) (.cons (.bi .all (.cons (.lc (.cal 3 (.cons (.var 2) (.cons (.var 3) .nil))) (.t (.cons (.n 2) (.cons (.n 3) .nil))) (.zip (.var 0) (.var 1)) .nil [2, 3]) .nil)) .nil)))) .nil)) .nil) (.cons (.iff (.boo false (.cons (.cmp .isn (.var 1) .non) (.cons (.cmp .isn (.var 0) .non) .nil))) (.cons (.ret (.boo true (.cons (.cmp .isn (.var 1) .non) (.cons (.cmp .isn (.var 0) .non) .nil)))) .nil) .nil) (.cons (.iff (.boo false (.cons (.cmp .ne (.isi (.var 0) [.tbool]) (.isi (.var 1) [.tbool])) (.cons (.cmp .ne (.isi (.var 0) [.tint]) (.isi (.var 1) [.tint])) .nil))) (.cons (.ret (.bl false)) .nil) .nil) (.cons (.ret (.boo true (.cons (.cmp .eq (.isi (.var 0) [.tstr]) (.isi (.var 1) [.tstr])) (.cons (.cmp .eq (.var 0) (.var 1)) .nil)))) .nil))))⟩
structure Bag (S : St) (b c : Nat) : Prop where
  ex : ∃ (xs : List Int) (i big seed k : Int), S.get b = some (.lst false [.ref c, .int i, .int big, .int seed, .int k]) ∧ S.get c = some (.lst false (xs.map D.int)) ∧ 0 ≤ i ∧ 0 ≤ big ∧ 0 ≤ seed ∧ seed < 2147483563
  ne : c ≠ b
  lb : b < S.n
  lc : c < S.n
theorem Bag.ext {S S' : St} {b c : Nat} (h : Bag S b c) (e : Ext S S') : Bag S' b c := by
  obtain ⟨xs, i, big, seed, k, h1, h2, h3⟩ := h.ex
  exact ⟨⟨xs, i, big, seed, k, (e.get b h.lb).trans h1, (e.get c h.lc).trans h2, h3⟩, h.ne, Nat.lt_of_lt_of_le h.lb e.n, Nat.lt_of_lt_of_le h.lc e.n⟩
theorem Bag.set {S : St} {b c a : Nat} {o : O} (h : Bag S b c) (hb : a ≠ b) (hc : a ≠ c) : Bag (S.set a o) b c := by
  obtain ⟨xs, i, big, seed, k, h1, h2, h3⟩ := h.ex
  exact ⟨⟨xs, i, big, seed, k, (get_set_ne hb.symm).trans h1, (get_set_ne hc.symm).trans h2, h3⟩, h.ne, h.lb, h.lc⟩
/-- nothing but the bag has changed -/
structure Fr (S S' : St) (b : Nat) : Prop where
  n : S.n ≤ S'.n
  get : ∀ a, a < S.n → a ≠ b → S'.get a = S.get a
theorem bag_set {S : St} {b c : Nat} {xs : List Int} {i big seed k : Int} (hc : S.get c = some (.lst false (xs.map D.int))) (hcb : c ≠ b) (hi : 0 ≤ i) (hbig : 0 ≤ big) (hs : 0 ≤ seed) (hs2 : seed < 2147483563) :
    b < S.n → c < S.n → Bag (S.set b (.lst false [.ref c, .int i, .int big, .int seed, .int k])) b c := fun h1 h2 => ⟨⟨xs, i, big, seed, k, get_set, by rw [get_set_ne hcb]; exact hc, hi, hbig, hs, hs2⟩, hcb, h1, h2⟩
theorem draw_wp {P : Prog} {d b c : Nat} {m : Int} {S : St} (hP : P.fn 1 = some f_law_draw) (hB : Bag S b c) (h0 : 0 < m) (h1 : m < 1073741824) :
    WP (evFn P (d + 1) 1 [.ref b, .int m] S) fun r S' => ∃ i, r = .int i ∧ 0 ≤ i ∧ i < m ∧ Bag S' b c ∧ S'.n = S.n ∧ ∀ a, a ≠ b → S'.get a = S.get a := by
  obtain ⟨xs, i, big, seed, k, hb, hc, hi, hbig, hs, hs2⟩ := hB.ex
  have hcb := hB.ne
  have hs3 : seed.natAbs < 2 ^ 64 := by omega
  have fr : ∀ o a, a ≠ b → (S.set b o).get a = S.get a := fun o a h => get_set_ne h
  have fin : ∀ (i' big' seed' k' r : Int), 0 ≤ i' → 0 ≤ big' → 0 ≤ seed' → seed' < 2147483563 → 0 ≤ r → r < m →
      ∃ i, D.int r = .int i ∧ 0 ≤ i ∧ i < m ∧ Bag (S.set b (.lst false [.ref c, .int i', .int big', .int seed', .int k'])) b c ∧ True ∧ ∀ a, a ≠ b → (S.set b (.lst false [.ref c, .int i', .int big', .int seed', .int k'])).get a = S.get a :=
    fun i' big' seed' k' r h2 h3 h4 h5 h6 h7 => ⟨r, rfl, h6, h7, bag_set hc hcb h2 h3 h4 h5 hB.lb hB.lc, trivial, fr _⟩
  have md : ∀ x : Int, 0 ≤ x % m ∧ x % m < m := fun x => ⟨Int.emod_nonneg _ (by omega), Int.emod_lt_of_pos _ h0⟩
  have m2 : ∀ x : Int, 0 ≤ x % 2147483563 ∧ x % 2147483563 < 2147483563 := fun x => by omega
  have dv : ∀ x : Int, 0 ≤ x → 0 ≤ x / m := fun x hx => Int.ediv_nonneg hx (by omega)
  refine wp_fn hP ⟨rfl, by decide⟩ rfl (ρ := [some (.ref b), some (.int m), none, none, none]) rfl ?_
  by_cases hz : big = 0
  · by_cases hl : i < xs.length
    · have hx : xs[i.toNat]? = some (xs[i.toNat]'(by omega)) := List.getElem?_eq_getElem (by omega)
      generalize xs[i.toNat]'(by omega) = x at hx
      simp only [f_law_draw, wSs_nil, wSs_cons, then_nx, then_rt, wS_asg, wS_asgS, wS_ret, wS_retN, wS_pas, wS_ex, wS_iff, wE_non, wE_bl, wE_int, wE_str, wE_glob, wE_var, varA_some, wE_bin, wE_cmp, wE_cmp2, c2A_bl, wE_ix, wE_bi, wE_cal, wE_tup, wE_lst, wE_nt, wEs_nil, wEs_cons, wBo_one, wBo_cons, wE_boo, wE_ite, wE_sl, wO_no, wO_so, ofI_int, wE_isi, wE_bm, wI_rng1, rngA_int, wp_ok, ix_str, ix_tup, ix_ref, ixA_lst, ofO_some, add_int, sub_int, mul_int, fdiv_int, mod_int, pow_int, add_str, add_tup, lt_int, le_int, gt_int, ge_int, eq_int, ne_int, eq_str, ne_str, eq_bl, ne_bl, isn_d, isnn_d, in_str, nin_str, truth_bl, truth_int, truth_tup, len_str, len_tup, len_ref, lenA_lst, int_int, set_ref, setA_lst, List.getElem?_cons_zero, List.getElem?_cons_succ, List.getElem?_nil, List.set_cons_zero, List.set_cons_succ, decide_eq_true_eq, Bool.not_eq_true, decide_eq_false_iff_not, List.map_cons, List.map_nil, List.cons_append, List.nil_append, out_nx, out_rt, nthI_nn, Int.reduceLE, Int.reduceToNat, List.length_cons, List.length_nil, set_set, get_set, n_set, n_push, get_push, hb, hc, get_set_ne hcb, List.length_map, List.getElem?_map, hx, Option.map_some, hi]
      (repeat' (first | apply And.intro | intro _)) <;> first | (rename_i h; exact absurd h hz) | trivial | exact .inr (by decide) | omega | exact fin _ _ _ _ _ (by omega) (by first | omega | exact dv _ (by omega)) (by first | exact (m2 _).1 | exact hs) (by first | exact (m2 _).2 | exact hs2) (md _).1 (md _).2
    · simp only [f_law_draw, wSs_nil, wSs_cons, then_nx, then_rt, wS_asg, wS_asgS, wS_ret, wS_retN, wS_pas, wS_ex, wS_iff, wE_non, wE_bl, wE_int, wE_str, wE_glob, wE_var, varA_some, wE_bin, wE_cmp, wE_cmp2, c2A_bl, wE_ix, wE_bi, wE_cal, wE_tup, wE_lst, wE_nt, wEs_nil, wEs_cons, wBo_one, wBo_cons, wE_boo, wE_ite, wE_sl, wO_no, wO_so, ofI_int, wE_isi, wE_bm, wI_rng1, rngA_int, wp_ok, ix_str, ix_tup, ix_ref, ixA_lst, ofO_some, add_int, sub_int, mul_int, fdiv_int, mod_int, pow_int, add_str, add_tup, lt_int, le_int, gt_int, ge_int, eq_int, ne_int, eq_str, ne_str, eq_bl, ne_bl, isn_d, isnn_d, in_str, nin_str, truth_bl, truth_int, truth_tup, len_str, len_tup, len_ref, lenA_lst, int_int, set_ref, setA_lst, List.getElem?_cons_zero, List.getElem?_cons_succ, List.getElem?_nil, List.set_cons_zero, List.set_cons_succ, decide_eq_true_eq, Bool.not_eq_true, decide_eq_false_iff_not, List.map_cons, List.map_nil, List.cons_append, List.nil_append, out_nx, out_rt, nthI_nn, Int.reduceLE, Int.reduceToNat, List.length_cons, List.length_nil, set_set, get_set, n_set, n_push, get_push, hb, hc, get_set_ne hcb, List.length_map, hi]
      (repeat' (first | apply And.intro | intro _)) <;> first | (rename_i h; exact absurd h hz) | trivial | exact .inr (by decide) | omega | exact fin _ _ _ _ _ (by omega) (by first | omega | exact dv _ (by omega)) (by first | exact (m2 _).1 | exact hs) (by first | exact (m2 _).2 | exact hs2) (md _).1 (md _).2
  · simp only [f_law_draw, wSs_nil, wSs_cons, then_nx, then_rt, wS_asg, wS_asgS, wS_ret, wS_retN, wS_pas, wS_ex, wS_iff, wE_non, wE_bl, wE_int, wE_str, wE_glob, wE_var, varA_some, wE_bin, wE_cmp, wE_cmp2, c2A_bl, wE_ix, wE_bi, wE_cal, wE_tup, wE_lst, wE_nt, wEs_nil, wEs_cons, wBo_one, wBo_cons, wE_boo, wE_ite, wE_sl, wO_no, wO_so, ofI_int, wE_isi, wE_bm, wI_rng1, rngA_int, wp_ok, ix_str, ix_tup, ix_ref, ixA_lst, ofO_some, add_int, sub_int, mul_int, fdiv_int, mod_int, pow_int, add_str, add_tup, lt_int, le_int, gt_int, ge_int, eq_int, ne_int, eq_str, ne_str, eq_bl, ne_bl, isn_d, isnn_d, in_str, nin_str, truth_bl, truth_int, truth_tup, len_str, len_tup, len_ref, lenA_lst, int_int, set_ref, setA_lst, List.getElem?_cons_zero, List.getElem?_cons_succ, List.getElem?_nil, List.set_cons_zero, List.set_cons_succ, decide_eq_true_eq, Bool.not_eq_true, decide_eq_false_iff_not, List.map_cons, List.map_nil, List.cons_append, List.nil_append, out_nx, out_rt, nthI_nn, Int.reduceLE, Int.reduceToNat, List.length_cons, List.length_nil, set_set, get_set, n_set, n_push, get_push, hb, hc, get_set_ne hcb, List.length_map, hi, hz]
    (repeat' (first | apply And.intro | intro _)) <;> first | (rename_i h; exact absurd h hz) | trivial | exact .inr (by decide) | omega | exact fin _ _ _ _ _ (by omega) (by first | omega | exact dv _ (by omega)) (by first | exact (m2 _).1 | exact hs) (by first | exact (m2 _).2 | exact hs2) (md _).1 (md _).2
theorem of_str {P : Prog} {d b c : Nat} {s : Txt} {S : St} (hP : P.fn 1 = some f_law_draw) (hP2 : P.fn 2 = some f_law_of) (hB : Bag S b c) (h0 : 0 < s.length) (h1 : s.length < 16777216) :
    WP (evFn P (d + 2) 2 [.ref b, .str s] S) fun r S' => (∃ c ∈ s, r = .str [c]) ∧ Bag S' b c ∧ S'.n = S.n ∧ ∀ a, a ≠ b → S'.get a = S.get a := by
  refine wp_fn hP2 ⟨rfl, by decide⟩ rfl (ρ := [some (.ref b), some (.str s)]) rfl ?_
  simp only [f_law_of, wSs_nil, wSs_cons, then_nx, then_rt, wS_asg, wS_asgS, wS_ret, wS_retN, wS_pas, wS_ex, wS_iff, wE_non, wE_bl, wE_int, wE_str, wE_glob, wE_var, varA_some, wE_bin, wE_cmp, wE_cmp2, c2A_bl, wE_ix, wE_bi, wE_cal, wE_tup, wE_lst, wE_nt, wEs_nil, wEs_cons, wBo_one, wBo_cons, wE_boo, wE_ite, wE_sl, wO_no, wO_so, ofI_int, wE_isi, wE_bm, wI_rng1, rngA_int, wp_ok, ix_str, ix_tup, ix_ref, ixA_lst, ofO_some, add_int, sub_int, mul_int, fdiv_int, mod_int, pow_int, add_str, add_tup, lt_int, le_int, gt_int, ge_int, eq_int, ne_int, eq_str, ne_str, eq_bl, ne_bl, isn_d, isnn_d, in_str, nin_str, truth_bl, truth_int, truth_tup, len_str, len_tup, len_ref, lenA_lst, int_int, set_ref, setA_lst, List.getElem?_cons_zero, List.getElem?_cons_succ, List.getElem?_nil, List.set_cons_zero, List.set_cons_succ, decide_eq_true_eq, Bool.not_eq_true, decide_eq_false_iff_not, List.map_cons, List.map_nil, List.cons_append, List.nil_append, out_nx, out_rt, nthI_nn, Int.reduceLE, Int.reduceToNat, List.length_cons, List.length_nil, set_set, get_set, n_set, n_push, get_push, call_eq hP, f_law_draw, Nat.reduceAdd, if_true]
  refine ⟨by unfold lim; omega, (draw_wp (d := d) hP hB (by omega) (by omega)).mono fun r S' ⟨i, e, h2, h3, h4, h5, h6⟩ => ?_⟩
  subst e
  simp only [wSs_nil, wSs_cons, then_nx, then_rt, wS_asg, wS_asgS, wS_ret, wS_retN, wS_pas, wS_ex, wS_iff, wE_non, wE_bl, wE_int, wE_str, wE_glob, wE_var, varA_some, wE_bin, wE_cmp, wE_cmp2, c2A_bl, wE_ix, wE_bi, wE_cal, wE_tup, wE_lst, wE_nt, wEs_nil, wEs_cons, wBo_one, wBo_cons, wE_boo, wE_ite, wE_sl, wO_no, wO_so, ofI_int, wE_isi, wE_bm, wI_rng1, rngA_int, wp_ok, ix_str, ix_tup, ix_ref, ixA_lst, ofO_some, add_int, sub_int, mul_int, fdiv_int, mod_int, pow_int, add_str, add_tup, lt_int, le_int, gt_int, ge_int, eq_int, ne_int, eq_str, ne_str, eq_bl, ne_bl, isn_d, isnn_d, in_str, nin_str, truth_bl, truth_int, truth_tup, len_str, len_tup, len_ref, lenA_lst, int_int, set_ref, setA_lst, List.getElem?_cons_zero, List.getElem?_cons_succ, List.getElem?_nil, List.set_cons_zero, List.set_cons_succ, decide_eq_true_eq, Bool.not_eq_true, decide_eq_false_iff_not, List.map_cons, List.map_nil, List.cons_append, List.nil_append, out_nx, out_rt, nthI_nn, Int.reduceLE, Int.reduceToNat, List.length_cons, List.length_nil, set_set, get_set, n_set, n_push, get_push]
  have hi : i.toNat < s.length := by omega
  refine ⟨s[i.toNat], by rw [nthI_nn h2, List.getElem?_eq_getElem hi], by unfold lim; omega, ⟨_, List.getElem_mem hi, rfl⟩, h4, h5, h6⟩
theorem of_tup {P : Prog} {d b c : Nat} {ds : List D} {S : St} (hP : P.fn 1 = some f_law_draw) (hP2 : P.fn 2 = some f_law_of) (hB : Bag S b c) (h0 : 0 < ds.length) (h1 : ds.length < 16777216) :
    WP (evFn P (d + 2) 2 [.ref b, .tup ds] S) fun r S' => r ∈ ds ∧ Bag S' b c ∧ S'.n = S.n ∧ ∀ a, a ≠ b → S'.get a = S.get a := by
  refine wp_fn hP2 ⟨rfl, by decide⟩ rfl (ρ := [some (.ref b), some (.tup ds)]) rfl ?_
  simp only [f_law_of, wSs_nil, wSs_cons, then_nx, then_rt, wS_asg, wS_asgS, wS_ret, wS_retN, wS_pas, wS_ex, wS_iff, wE_non, wE_bl, wE_int, wE_str, wE_glob, wE_var, varA_some, wE_bin, wE_cmp, wE_cmp2, c2A_bl, wE_ix, wE_bi, wE_cal, wE_tup, wE_lst, wE_nt, wEs_nil, wEs_cons, wBo_one, wBo_cons, wE_boo, wE_ite, wE_sl, wO_no, wO_so, ofI_int, wE_isi, wE_bm, wI_rng1, rngA_int, wp_ok, ix_str, ix_tup, ix_ref, ixA_lst, ofO_some, add_int, sub_int, mul_int, fdiv_int, mod_int, pow_int, add_str, add_tup, lt_int, le_int, gt_int, ge_int, eq_int, ne_int, eq_str, ne_str, eq_bl, ne_bl, isn_d, isnn_d, in_str, nin_str, truth_bl, truth_int, truth_tup, len_str, len_tup, len_ref, lenA_lst, int_int, set_ref, setA_lst, List.getElem?_cons_zero, List.getElem?_cons_succ, List.getElem?_nil, List.set_cons_zero, List.set_cons_succ, decide_eq_true_eq, Bool.not_eq_true, decide_eq_false_iff_not, List.map_cons, List.map_nil, List.cons_append, List.nil_append, out_nx, out_rt, nthI_nn, Int.reduceLE, Int.reduceToNat, List.length_cons, List.length_nil, set_set, get_set, n_set, n_push, get_push, call_eq hP, f_law_draw, Nat.reduceAdd, if_true]
  refine (draw_wp (d := d) hP hB (by omega) (by omega)).mono fun r S' ⟨i, e, h2, h3, h4, h5, h6⟩ => ?_
  subst e
  have hi : i.toNat < ds.length := by omega
  simp only [wSs_nil, wSs_cons, then_nx, then_rt, wS_asg, wS_asgS, wS_ret, wS_retN, wS_pas, wS_ex, wS_iff, wE_non, wE_bl, wE_int, wE_str, wE_glob, wE_var, varA_some, wE_bin, wE_cmp, wE_cmp2, c2A_bl, wE_ix, wE_bi, wE_cal, wE_tup, wE_lst, wE_nt, wEs_nil, wEs_cons, wBo_one, wBo_cons, wE_boo, wE_ite, wE_sl, wO_no, wO_so, ofI_int, wE_isi, wE_bm, wI_rng1, rngA_int, wp_ok, ix_str, ix_tup, ix_ref, ixA_lst, ofO_some, add_int, sub_int, mul_int, fdiv_int, mod_int, pow_int, add_str, add_tup, lt_int, le_int, gt_int, ge_int, eq_int, ne_int, eq_str, ne_str, eq_bl, ne_bl, isn_d, isnn_d, in_str, nin_str, truth_bl, truth_int, truth_tup, len_str, len_tup, len_ref, lenA_lst, int_int, set_ref, setA_lst, List.getElem?_cons_zero, List.getElem?_cons_succ, List.getElem?_nil, List.set_cons_zero, List.set_cons_succ, decide_eq_true_eq, Bool.not_eq_true, decide_eq_false_iff_not, List.map_cons, List.map_nil, List.cons_append, List.nil_append, out_nx, out_rt, nthI_nn, Int.reduceLE, Int.reduceToNat, List.length_cons, List.length_nil, set_set, get_set, n_set, n_push, get_push, nthI_nn h2, List.getElem?_eq_getElem hi]
  exact ⟨List.getElem_mem hi, h4, h5, h6⟩
theorem of_lst {P : Prog} {d b c a : Nat} {lk : Bool} {ds : List D} {S : St} (hP : P.fn 1 = some f_law_draw) (hP2 : P.fn 2 = some f_law_of) (hB : Bag S b c) (hab : a ≠ b) (ha : S.get a = some (.lst lk ds)) (h0 : 0 < ds.length) (h1 : ds.length < 16777216) :
    WP (evFn P (d + 2) 2 [.ref b, .ref a] S) fun r S' => r ∈ ds ∧ Bag S' b c ∧ S'.n = S.n ∧ ∀ a, a ≠ b → S'.get a = S.get a := by
  refine wp_fn hP2 ⟨rfl, by decide⟩ rfl (ρ := [some (.ref b), some (.ref a)]) rfl ?_
  simp only [f_law_of, wSs_nil, wSs_cons, then_nx, then_rt, wS_asg, wS_asgS, wS_ret, wS_retN, wS_pas, wS_ex, wS_iff, wE_non, wE_bl, wE_int, wE_str, wE_glob, wE_var, varA_some, wE_bin, wE_cmp, wE_cmp2, c2A_bl, wE_ix, wE_bi, wE_cal, wE_tup, wE_lst, wE_nt, wEs_nil, wEs_cons, wBo_one, wBo_cons, wE_boo, wE_ite, wE_sl, wO_no, wO_so, ofI_int, wE_isi, wE_bm, wI_rng1, rngA_int, wp_ok, ix_str, ix_tup, ix_ref, ixA_lst, ofO_some, add_int, sub_int, mul_int, fdiv_int, mod_int, pow_int, add_str, add_tup, lt_int, le_int, gt_int, ge_int, eq_int, ne_int, eq_str, ne_str, eq_bl, ne_bl, isn_d, isnn_d, in_str, nin_str, truth_bl, truth_int, truth_tup, len_str, len_tup, len_ref, lenA_lst, int_int, set_ref, setA_lst, List.getElem?_cons_zero, List.getElem?_cons_succ, List.getElem?_nil, List.set_cons_zero, List.set_cons_succ, decide_eq_true_eq, Bool.not_eq_true, decide_eq_false_iff_not, List.map_cons, List.map_nil, List.cons_append, List.nil_append, out_nx, out_rt, nthI_nn, Int.reduceLE, Int.reduceToNat, List.length_cons, List.length_nil, set_set, get_set, n_set, n_push, get_push, call_eq hP, f_law_draw, Nat.reduceAdd, if_true, ha]
  refine (draw_wp (d := d) hP hB (by omega) (by omega)).mono fun r S' ⟨i, e, h2, h3, h4, h5, h6⟩ => ?_
  subst e
  have hi : i.toNat < ds.length := by omega
  simp only [wSs_nil, wSs_cons, then_nx, then_rt, wS_asg, wS_asgS, wS_ret, wS_retN, wS_pas, wS_ex, wS_iff, wE_non, wE_bl, wE_int, wE_str, wE_glob, wE_var, varA_some, wE_bin, wE_cmp, wE_cmp2, c2A_bl, wE_ix, wE_bi, wE_cal, wE_tup, wE_lst, wE_nt, wEs_nil, wEs_cons, wBo_one, wBo_cons, wE_boo, wE_ite, wE_sl, wO_no, wO_so, ofI_int, wE_isi, wE_bm, wI_rng1, rngA_int, wp_ok, ix_str, ix_tup, ix_ref, ixA_lst, ofO_some, add_int, sub_int, mul_int, fdiv_int, mod_int, pow_int, add_str, add_tup, lt_int, le_int, gt_int, ge_int, eq_int, ne_int, eq_str, ne_str, eq_bl, ne_bl, isn_d, isnn_d, in_str, nin_str, truth_bl, truth_int, truth_tup, len_str, len_tup, len_ref, lenA_lst, int_int, set_ref, setA_lst, List.getElem?_cons_zero, List.getElem?_cons_succ, List.getElem?_nil, List.set_cons_zero, List.set_cons_succ, decide_eq_true_eq, Bool.not_eq_true, decide_eq_false_iff_not, List.map_cons, List.map_nil, List.cons_append, List.nil_append, out_nx, out_rt, nthI_nn, Int.reduceLE, Int.reduceToNat, List.length_cons, List.length_nil, set_set, get_set, n_set, n_push, get_push, h6 a hab, ha, nthI_nn h2, List.getElem?_eq_getElem hi]
  exact ⟨List.getElem_mem hi, h4, h5, h6⟩
theorem cut_take {α : Type} (xs : List α) : cut xs none (some 63) = xs.take 63 := by
  unfold cut bnd
  simp only [List.drop_zero, Nat.sub_zero]
  rw [if_neg (by decide)]
  show xs.take (min 63 xs.length) = _
  by_cases h : 63 ≤ xs.length
  · rw [Nat.min_eq_left h]
  · rw [Nat.min_eq_right (by omega), List.take_of_length_le (Nat.le_refl _), List.take_of_length_le (by omega)]
theorem bag_wp {P : Prog} {d : Nat} {ns : List Int} (hP : P.fn 0 = some f_law_bag) : WP (evFn P (d + 1) 0 [.ref 0] (S0 ns)) fun r S' => r = .ref 3 ∧ S'.n = 4 ∧ Bag S' 3 2 := by
  refine wp_fn hP ⟨rfl, by decide⟩ rfl (ρ := [some (.ref 0)]) rfl ?_
  have e : opSl (.ref 0) none (some 63) (S0 ns) = .ok (.ref 1) ((S0 ns).push (.lst false ((ns.map D.int).take 63))) := by
    simp only [opSl, S0, cut_take, if_true]
  have e2 : opBi .list [.ref 1] ((S0 ns).push (.lst false ((ns.map D.int).take 63))) = .ok (.ref 2) (((S0 ns).push (.lst false ((ns.map D.int).take 63))).push (.lst false ((ns.map D.int).take 63))) := rfl
  simp only [f_law_bag, wSs_nil, wSs_cons, then_nx, then_rt, wS_asg, wS_asgS, wS_ret, wS_retN, wS_pas, wS_ex, wS_iff, wE_non, wE_bl, wE_int, wE_str, wE_glob, wE_var, varA_some, wE_bin, wE_cmp, wE_cmp2, c2A_bl, wE_ix, wE_bi, wE_cal, wE_tup, wE_lst, wE_nt, wEs_nil, wEs_cons, wBo_one, wBo_cons, wE_boo, wE_ite, wE_sl, wO_no, wO_so, ofI_int, wE_isi, wE_bm, wI_rng1, rngA_int, wp_ok, ix_str, ix_tup, ix_ref, ixA_lst, ofO_some, add_int, sub_int, mul_int, fdiv_int, mod_int, pow_int, add_str, add_tup, lt_int, le_int, gt_int, ge_int, eq_int, ne_int, eq_str, ne_str, eq_bl, ne_bl, isn_d, isnn_d, in_str, nin_str, truth_bl, truth_int, truth_tup, len_str, len_tup, len_ref, lenA_lst, int_int, set_ref, setA_lst, List.getElem?_cons_zero, List.getElem?_cons_succ, List.getElem?_nil, List.set_cons_zero, List.set_cons_succ, decide_eq_true_eq, Bool.not_eq_true, decide_eq_false_iff_not, List.map_cons, List.map_nil, List.cons_append, List.nil_append, out_nx, out_rt, nthI_nn, Int.reduceLE, Int.reduceToNat, List.length_cons, List.length_nil, set_set, get_set, n_set, n_push, get_push, wE_sl, e, e2]
  refine ⟨by decide, rfl, rfl, ⟨ns.take 63, 0, 0, 12005, 0, rfl, ?_, by decide, by decide, by decide, by decide⟩, by decide, (by show 3 < 4; decide), (by show 2 < 4; decide)⟩
  rw [List.map_take]; rfl
/-! ### a word of drawn letters -/
theorem word_wp {P : Prog} {d b c : Nat} {s : Txt} {own : List Nat} {ρ : Env} {S : St} {t : Tg} {Q : D → St → Prop} {i1 i2 : Nat} {i : It} (m : Nat) (hm : m < 16777216) (hP : P.fn 1 = some f_law_draw) (hP2 : P.fn 2 = some f_law_of) (h0 : 0 < s.length) (h1 : s.length < 16777216)
    (hi : WP (evI ⟨P, evFn P (d + 2), fuel⟩ i ρ S) fun p S1 => p.2 = [] ∧ p.1.length ≤ m ∧ Bag S1 b c ∧ S1.n = S.n ∧ ∀ x, ∃ ρ1, asgT t x (wipe ρ own) = some ρ1 ∧ ρ1[i1]? = some (some (.ref b)) ∧ ρ1[i2]? = some (some (.str s)))
    (k : ∀ (w : Txt) S', w.length ≤ m → (∀ c ∈ w, c ∈ s) → Bag S' b c → S'.n = S.n + 1 → Q (.str w) S') :
    WP (evE ⟨P, evFn P (d + 2), fuel⟩ (.bm .join (.str []) (.cons (.lc (.cal 2 (.cons (.var i1) (.cons (.var i2) .nil))) t i .nil own) .nil)) ρ S) Q := by
  rw [wE_bm, wE_str]
  refine ⟨rfl, ?_⟩
  rw [wEs_cons, wE_lc]
  refine hi.mono ?_
  rintro ⟨xs, src⟩ S1 ⟨h2, hl, hB, hn, hr⟩
  simp only at h2 hl
  subst h2
  have lb := hB.lb
  have lc := hB.lc
  refine lc_all (fun S' => Bag S' b c ∧ S'.n = S.n + 1) (fun y => ∃ c, c ∈ s ∧ y = .str [c]) (fun _ _ => rfl) (fun S' o h => ⟨h.1.set (by omega) (by omega), h.2⟩) xs [] _ (fun x _ S' acc hj ha => ?_) ⟨hB.ext Ext.push, by rw [n_push, hn]⟩ get_push (by simp) (by unfold lim; simp; omega) (fun S' ds hj ha hlen hp => ?_)
  · obtain ⟨ρ1, e, e1, e2⟩ := hr x
    rw [lcG0, e]
    simp only [wSs_nil, wSs_cons, then_nx, then_rt, wS_asg, wS_asgS, wS_ret, wS_retN, wS_pas, wS_ex, wS_iff, wE_non, wE_bl, wE_int, wE_str, wE_glob, wE_var, varA_some, wE_bin, wE_cmp, wE_cmp2, c2A_bl, wE_ix, wE_bi, wE_cal, wE_tup, wE_lst, wE_nt, wEs_nil, wEs_cons, wBo_one, wBo_cons, wE_boo, wE_ite, wE_sl, wO_no, wO_so, ofI_int, wE_isi, wE_bm, wI_rng1, rngA_int, wp_ok, ix_str, ix_tup, ix_ref, ixA_lst, ofO_some, add_int, sub_int, mul_int, fdiv_int, mod_int, pow_int, add_str, add_tup, lt_int, le_int, gt_int, ge_int, eq_int, ne_int, eq_str, ne_str, eq_bl, ne_bl, isn_d, isnn_d, in_str, nin_str, truth_bl, truth_int, truth_tup, len_str, len_tup, len_ref, lenA_lst, int_int, set_ref, setA_lst, List.getElem?_cons_zero, List.getElem?_cons_succ, List.getElem?_nil, List.set_cons_zero, List.set_cons_succ, decide_eq_true_eq, Bool.not_eq_true, decide_eq_false_iff_not, List.map_cons, List.map_nil, List.cons_append, List.nil_append, out_nx, out_rt, nthI_nn, Int.reduceLE, Int.reduceToNat, List.length_cons, List.length_nil, set_set, get_set, n_set, n_push, get_push, e1, e2, call_eq hP2, f_law_of, Nat.reduceAdd, if_true]
    refine (of_str hP hP2 hj.1 h0 h1).mono ?_
    rintro r S'' ⟨⟨c, hc, rfl⟩, hB', hn', hg⟩
    exact ⟨_, rfl, ⟨c, hc, rfl⟩, ⟨hB', by rw [hn']; exact hj.2⟩, by rw [hg _ (by omega)]; exact ha⟩
  · refine ⟨rfl, ?_⟩
    obtain ⟨w, rfl, hw⟩ := chars_of hp
    simp only [List.length_map, List.length_nil] at hlen
    simp only [wSs_nil, wSs_cons, then_nx, then_rt, wS_asg, wS_asgS, wS_ret, wS_retN, wS_pas, wS_ex, wS_iff, wE_non, wE_bl, wE_int, wE_str, wE_glob, wE_var, varA_some, wE_bin, wE_cmp, wE_cmp2, c2A_bl, wE_ix, wE_bi, wE_cal, wE_tup, wE_lst, wE_nt, wEs_nil, wEs_cons, wBo_one, wBo_cons, wE_boo, wE_ite, wE_sl, wO_no, wO_so, ofI_int, wE_isi, wE_bm, wI_rng1, rngA_int, wp_ok, ix_str, ix_tup, ix_ref, ixA_lst, ofO_some, add_int, sub_int, mul_int, fdiv_int, mod_int, pow_int, add_str, add_tup, lt_int, le_int, gt_int, ge_int, eq_int, ne_int, eq_str, ne_str, eq_bl, ne_bl, isn_d, isnn_d, in_str, nin_str, truth_bl, truth_int, truth_tup, len_str, len_tup, len_ref, lenA_lst, int_int, set_ref, setA_lst, List.getElem?_cons_zero, List.getElem?_cons_succ, List.getElem?_nil, List.set_cons_zero, List.set_cons_succ, decide_eq_true_eq, Bool.not_eq_true, decide_eq_false_iff_not, List.map_cons, List.map_nil, List.cons_append, List.nil_append, out_nx, out_rt, nthI_nn, Int.reduceLE, Int.reduceToNat, List.length_cons, List.length_nil, set_set, get_set, n_set, n_push, get_push]
    rw [join_chars ha (by unfold lim; omega)]
    exact k w S' (by omega) hw hj.1 hj.2
theorem same_bl {P : Prog} {d : Nat} {S : St} {b : Bool} (hP : P.fn 3 = some f_law_same) : WP (evFn P (d + 1) 3 [.bl b, .bl b] S) fun r S' => r = .bl true ∧ Ext S S' := by
  refine wp_fn hP ⟨rfl, by decide⟩ rfl (ρ := [some _, some _, none, none]) rfl ?_
  simp [f_law_same, wSs_nil, wSs_cons, then_nx, then_rt, wS_asg, wS_asgS, wS_ret, wS_retN, wS_pas, wS_ex, wS_iff, wE_non, wE_bl, wE_int, wE_str, wE_glob, wE_var, varA_some, wE_bin, wE_cmp, wE_cmp2, c2A_bl, wE_ix, wE_bi, wE_cal, wE_tup, wE_lst, wE_nt, wEs_nil, wEs_cons, wBo_one, wBo_cons, wE_boo, wE_ite, wE_sl, wO_no, wO_so, ofI_int, wE_isi, wE_bm, wI_rng1, rngA_int, wp_ok, ix_str, ix_tup, ix_ref, ixA_lst, ofO_some, add_int, sub_int, mul_int, fdiv_int, mod_int, pow_int, add_str, add_tup, lt_int, le_int, gt_int, ge_int, eq_int, ne_int, eq_str, ne_str, eq_bl, ne_bl, isn_d, isnn_d, in_str, nin_str, truth_bl, truth_int, truth_tup, len_str, len_tup, len_ref, lenA_lst, int_int, set_ref, setA_lst, List.getElem?_cons_zero, List.getElem?_cons_succ, List.getElem?_nil, List.set_cons_zero, List.set_cons_succ, decide_eq_true_eq, Bool.not_eq_true, decide_eq_false_iff_not, List.map_cons, List.map_nil, List.cons_append, List.nil_append, out_nx, out_rt, nthI_nn, Int.reduceLE, Int.reduceToNat, List.length_cons, List.length_nil, set_set, get_set, n_set, n_push, get_push, dty, isDT, Ext.refl]
theorem same_str {P : Prog} {d : Nat} {S : St} {b : Txt} (hP : P.fn 3 = some f_law_same) : WP (evFn P (d + 1) 3 [.str b, .str b] S) fun r S' => r = .bl true ∧ Ext S S' := by
  refine wp_fn hP ⟨rfl, by decide⟩ rfl (ρ := [some _, some _, none, none]) rfl ?_
  simp [f_law_same, wSs_nil, wSs_cons, then_nx, then_rt, wS_asg, wS_asgS, wS_ret, wS_retN, wS_pas, wS_ex, wS_iff, wE_non, wE_bl, wE_int, wE_str, wE_glob, wE_var, varA_some, wE_bin, wE_cmp, wE_cmp2, c2A_bl, wE_ix, wE_bi, wE_cal, wE_tup, wE_lst, wE_nt, wEs_nil, wEs_cons, wBo_one, wBo_cons, wE_boo, wE_ite, wE_sl, wO_no, wO_so, ofI_int, wE_isi, wE_bm, wI_rng1, rngA_int, wp_ok, ix_str, ix_tup, ix_ref, ixA_lst, ofO_some, add_int, sub_int, mul_int, fdiv_int, mod_int, pow_int, add_str, add_tup, lt_int, le_int, gt_int, ge_int, eq_int, ne_int, eq_str, ne_str, eq_bl, ne_bl, isn_d, isnn_d, in_str, nin_str, truth_bl, truth_int, truth_tup, len_str, len_tup, len_ref, lenA_lst, int_int, set_ref, setA_lst, List.getElem?_cons_zero, List.getElem?_cons_succ, List.getElem?_nil, List.set_cons_zero, List.set_cons_succ, decide_eq_true_eq, Bool.not_eq_true, decide_eq_false_iff_not, List.map_cons, List.map_nil, List.cons_append, List.nil_append, out_nx, out_rt, nthI_nn, Int.reduceLE, Int.reduceToNat, List.length_cons, List.length_nil, set_set, get_set, n_set, n_push, get_push, dty, isDT, Ext.refl]
/-! ### same -/
section
variable {P : Prog} {S : St}
theorem sees_lst {vs : List D} {x : D} (h : Sees S (.lst vs) x) : ∃ a lk ds, x = .ref a ∧ a < S.n ∧ S.get a = some (.lst lk ds) ∧ SeesL S vs ds := by rw [Sees] at h; exact h
theorem sees_tup {vs : List D} {x : D} (h : Sees S (.tup vs) x) : ∃ ds, x = .tup ds ∧ SeesL S vs ds := by rw [Sees] at h; exact h
theorem dep_mem : ∀ {vs : List D} {v : D}, v ∈ vs → v.dep ≤ D.deps vs
  | [], _, h => absurd h (by simp)
  | a :: as, v, h => by
    rw [D.deps]
    rcases List.mem_cons.mp h with e | h
    · rw [e]; omega
    · have := dep_mem h; omega
theorem sz_mem : ∀ {vs : List D} {v : D}, v ∈ vs → v.sz ≤ D.szs vs
  | [], _, h => absurd h (by simp)
  | a :: as, v, h => by
    rw [D.szs]
    rcases List.mem_cons.mp h with e | h
    · rw [e]; omega
    · have := sz_mem h; omega
/-- the loop of the comprehension in it -/
theorem same_loop {d : Nat} (hP : P.fn 3 = some f_law_same) (src : List (Nat × O)) (a0 : Nat) (S0 : St) (hsrc : ∀ p ∈ src, p.1 < S0.n ∧ S0.get p.1 = some p.2) (h0 : S0.n ≤ a0) (n : Nat)
    (ih : ∀ v x y S, Sees S v x → Sees S v y → v.dep ≤ n → v.sz < lim → WP (evFn P d 3 [x, y] S) fun r S' => r = .bl true ∧ Ext S S') {Q : Unit → St → Prop} {ρ : Env} (hρ : ∃ p q, ρ = [p, q, none, none]) :
    ∀ (vs ds es acc : List D) (S : St), SeesL S vs ds → SeesL S vs es → (∀ v ∈ vs, v.dep ≤ n ∧ v.sz < lim) → Ext S0 S → a0 < S.n → S.get a0 = some (.lst false acc) → SeesL S0 vs ds → SeesL S0 vs es → acc.length + vs.length < lim →
      (∀ S', Ext S0 S' → a0 < S'.n → S'.get a0 = some (.lst false (acc ++ List.replicate vs.length (.bl true))) → Q () S') →
      WP (lcLoop (lcG ⟨P, evFn P d, fuel⟩ (.cal 3 (.cons (.var 2) (.cons (.var 3) .nil))) (.t (.cons (.n 2) (.cons (.n 3) .nil))) .nil [2, 3] ρ) src a0 (List.zipWith (fun u v => .tup [u, v]) ds es) acc S) Q := by
  obtain ⟨p, q, rfl⟩ := hρ
  intro vs
  induction vs with
  | nil =>
    intro ds es acc S h1 h2 _ h4 h5 h6 _ _ _ k
    rw [SeesL] at h1
    subst h1
    rw [List.zipWith_nil_left, lcLoop]
    exact k S h4 h5 (by rw [h6]; simp)
  | cons v vs ihv =>
    intro ds es acc S h1 h2 h3 h4 h5 h6 h8 h9 h10 k
    rw [SeesL] at h8 h9
    obtain ⟨x, ds, rfl, hx, h8⟩ := h8
    obtain ⟨y, es, rfl, hy, h9⟩ := h9
    have hst : stands S src = true := by
      unfold stands
      rw [List.all_eq_true]
      intro p hp
      exact decide_eq_true ((h4.get _ (hsrc p hp).1).trans (hsrc p hp).2)
    rw [List.zipWith_cons_cons, lcLoop, if_pos hst]
    refine WP.step (Q' := fun o S' => o = some (.bl true) ∧ Ext S S') ?_ ?_
    · rw [lcG0]
      have e : asgT (.t (.cons (.n 2) (.cons (.n 3) .nil))) (.tup [x, y]) (wipe [p, q, none, none] [2, 3]) = some [p, q, some x, some y] := rfl
      rw [e]
      simp only [wSs_nil, wSs_cons, then_nx, then_rt, wS_asg, wS_asgS, wS_ret, wS_retN, wS_pas, wS_ex, wS_iff, wE_non, wE_bl, wE_int, wE_str, wE_glob, wE_var, varA_some, wE_bin, wE_cmp, wE_cmp2, c2A_bl, wE_ix, wE_bi, wE_cal, wE_tup, wE_lst, wE_nt, wEs_nil, wEs_cons, wBo_one, wBo_cons, wE_boo, wE_ite, wE_sl, wO_no, wO_so, ofI_int, wE_isi, wE_bm, wI_rng1, rngA_int, wp_ok, ix_str, ix_tup, ix_ref, ixA_lst, ofO_some, add_int, sub_int, mul_int, fdiv_int, mod_int, pow_int, add_str, add_tup, lt_int, le_int, gt_int, ge_int, eq_int, ne_int, eq_str, ne_str, eq_bl, ne_bl, isn_d, isnn_d, in_str, nin_str, truth_bl, truth_int, truth_tup, len_str, len_tup, len_ref, lenA_lst, int_int, set_ref, setA_lst, List.getElem?_cons_zero, List.getElem?_cons_succ, List.getElem?_nil, List.set_cons_zero, List.set_cons_succ, decide_eq_true_eq, Bool.not_eq_true, decide_eq_false_iff_not, List.map_cons, List.map_nil, List.cons_append, List.nil_append, out_nx, out_rt, nthI_nn, Int.reduceLE, Int.reduceToNat, List.length_cons, List.length_nil, set_set, get_set, n_set, n_push, get_push, call_eq hP, f_law_same, Nat.reduceAdd, if_true]
      exact (ih v x y S (Sees.ext h4 _ _ hx) (Sees.ext h4 _ _ hy) (h3 v List.mem_cons_self).1 (h3 v List.mem_cons_self).2).mono fun r S' ⟨e, h⟩ => ⟨by rw [e], h⟩
    · rintro o S' ⟨rfl, e⟩
      simp only
      have hl : acc.length < lim := by simp at h10; omega
      have ha : S'.get a0 = some (.lst false acc) := (e.get _ h5).trans h6
      rw [if_pos ⟨hl, ha⟩]
      have e2 : Ext S0 (S'.set a0 (.lst false (acc ++ [.bl true]))) := (h4.trans e).set h0
      refine ihv ds es (acc ++ [.bl true]) _ (SeesL.ext e2 _ _ h8) (SeesL.ext e2 _ _ h9) (fun w hw => h3 w (List.mem_cons_of_mem _ hw)) e2 (Nat.lt_of_lt_of_le h5 e.n) get_set h8 h9 (by simp at h10 ⊢; omega) fun S'' k1 k2 k3 => k S'' k1 k2 ?_
      rw [k3]
      simp [List.replicate_succ]
theorem all_true {S : St} {a n : Nat} {lk : Bool} (h : S.get a = some (.lst lk ([] ++ List.replicate n (.bl true)))) : opBi .all [.ref a] S = .ok (.bl true) S := by
  show bAll S (.ref a) = _
  have e : ((List.replicate n (D.bl true)).all isBl) = true := List.all_eq_true.mpr fun x hx => by rw [(List.mem_replicate.mp hx).2]; rfl
  have e2 : ((List.replicate n (D.bl true)).all blOf) = true := List.all_eq_true.mpr fun x hx => by rw [(List.mem_replicate.mp hx).2]; rfl
  simp only [bAll, lstOf, h, List.nil_append, Option.bind_some, allB, e, e2, if_true]
theorem same_wp (hP : P.fn 3 = some f_law_same) : ∀ (d : Nat) (v x y : D) (S : St), Sees S v x → Sees S v y → v.dep ≤ d → v.sz < lim → WP (evFn P (d + 1) 3 [x, y] S) fun r S' => r = .bl true ∧ Ext S S' := by
  intro d
  induction d with
  | zero =>
    intro v x y S hx hy hd hz
    cases v with
    | tup vs => rw [D.dep] at hd; omega
    | lst vs => rw [D.dep] at hd; omega
    | ref _ => rw [Sees] at hx; exact hx.elim
    | cls _ => rw [Sees] at hx; exact hx.elim
    | _ =>
      rw [Sees] at hx hy
      subst hx
      subst hy
      refine wp_fn hP ⟨rfl, by decide⟩ rfl (ρ := [some _, some _, none, none]) rfl ?_
      simp [f_law_same, wSs_nil, wSs_cons, then_nx, then_rt, wS_asg, wS_asgS, wS_ret, wS_retN, wS_pas, wS_ex, wS_iff, wE_non, wE_bl, wE_int, wE_str, wE_glob, wE_var, varA_some, wE_bin, wE_cmp, wE_cmp2, c2A_bl, wE_ix, wE_bi, wE_cal, wE_tup, wE_lst, wE_nt, wEs_nil, wEs_cons, wBo_one, wBo_cons, wE_boo, wE_ite, wE_sl, wO_no, wO_so, ofI_int, wE_isi, wE_bm, wI_rng1, rngA_int, wp_ok, ix_str, ix_tup, ix_ref, ixA_lst, ofO_some, add_int, sub_int, mul_int, fdiv_int, mod_int, pow_int, add_str, add_tup, lt_int, le_int, gt_int, ge_int, eq_int, ne_int, eq_str, ne_str, eq_bl, ne_bl, isn_d, isnn_d, in_str, nin_str, truth_bl, truth_int, truth_tup, len_str, len_tup, len_ref, lenA_lst, int_int, set_ref, setA_lst, List.getElem?_cons_zero, List.getElem?_cons_succ, List.getElem?_nil, List.set_cons_zero, List.set_cons_succ, decide_eq_true_eq, Bool.not_eq_true, decide_eq_false_iff_not, List.map_cons, List.map_nil, List.cons_append, List.nil_append, out_nx, out_rt, nthI_nn, Int.reduceLE, Int.reduceToNat, List.length_cons, List.length_nil, set_set, get_set, n_set, n_push, get_push, dty, isDT, Ext.refl]
  | succ d ih =>
    intro v x y S hx hy hd hz
    cases v with
    | ref _ => rw [Sees] at hx; exact hx.elim
    | cls _ => rw [Sees] at hx; exact hx.elim
    | tup vs =>
      obtain ⟨ds, rfl, h1⟩ := sees_tup hx
      obtain ⟨es, rfl, h2⟩ := sees_tup hy
      refine wp_fn hP ⟨rfl, by decide⟩ rfl (ρ := [some _, some _, none, none]) rfl ?_
      have hl : ds.length = es.length := h1.len.symm.trans h2.len
      rw [D.dep] at hd
      rw [D.sz] at hz
      simp [f_law_same, wSs_nil, wSs_cons, then_nx, then_rt, wS_asg, wS_asgS, wS_ret, wS_retN, wS_pas, wS_ex, wS_iff, wE_non, wE_bl, wE_int, wE_str, wE_glob, wE_var, varA_some, wE_bin, wE_cmp, wE_cmp2, c2A_bl, wE_ix, wE_bi, wE_cal, wE_tup, wE_lst, wE_nt, wEs_nil, wEs_cons, wBo_one, wBo_cons, wE_boo, wE_ite, wE_sl, wO_no, wO_so, ofI_int, wE_isi, wE_bm, wI_rng1, rngA_int, wp_ok, ix_str, ix_tup, ix_ref, ixA_lst, ofO_some, add_int, sub_int, mul_int, fdiv_int, mod_int, pow_int, add_str, add_tup, lt_int, le_int, gt_int, ge_int, eq_int, ne_int, eq_str, ne_str, eq_bl, ne_bl, isn_d, isnn_d, in_str, nin_str, truth_bl, truth_int, truth_tup, len_str, len_tup, len_ref, lenA_lst, int_int, set_ref, setA_lst, List.getElem?_cons_zero, List.getElem?_cons_succ, List.getElem?_nil, List.set_cons_zero, List.set_cons_succ, decide_eq_true_eq, Bool.not_eq_true, decide_eq_false_iff_not, List.map_cons, List.map_nil, List.cons_append, List.nil_append, out_nx, out_rt, nthI_nn, Int.reduceLE, Int.reduceToNat, List.length_cons, List.length_nil, set_set, get_set, n_set, n_push, get_push, dty, isDT, hl]
      rw [wE_lc, wI_zip]
      simp only [wSs_nil, wSs_cons, then_nx, then_rt, wS_asg, wS_asgS, wS_ret, wS_retN, wS_pas, wS_ex, wS_iff, wE_non, wE_bl, wE_int, wE_str, wE_glob, wE_var, varA_some, wE_bin, wE_cmp, wE_cmp2, c2A_bl, wE_ix, wE_bi, wE_cal, wE_tup, wE_lst, wE_nt, wEs_nil, wEs_cons, wBo_one, wBo_cons, wE_boo, wE_ite, wE_sl, wO_no, wO_so, ofI_int, wE_isi, wE_bm, wI_rng1, rngA_int, wp_ok, ix_str, ix_tup, ix_ref, ixA_lst, ofO_some, add_int, sub_int, mul_int, fdiv_int, mod_int, pow_int, add_str, add_tup, lt_int, le_int, gt_int, ge_int, eq_int, ne_int, eq_str, ne_str, eq_bl, ne_bl, isn_d, isnn_d, in_str, nin_str, truth_bl, truth_int, truth_tup, len_str, len_tup, len_ref, lenA_lst, int_int, set_ref, setA_lst, List.getElem?_cons_zero, List.getElem?_cons_succ, List.getElem?_nil, List.set_cons_zero, List.set_cons_succ, decide_eq_true_eq, Bool.not_eq_true, decide_eq_false_iff_not, List.map_cons, List.map_nil, List.cons_append, List.nil_append, out_nx, out_rt, nthI_nn, Int.reduceLE, Int.reduceToNat, List.length_cons, List.length_nil, set_set, get_set, n_set, n_push, get_push, zipItems]
      have hz2 : vs.length < lim := by omega
      refine same_loop hP [] S.n S (fun p hp => absurd hp (by simp)) (Nat.le_refl _) d (fun v x y S => ih v x y S) ⟨_, _, rfl⟩ vs ds es [] _ (SeesL.ext Ext.push _ _ h1) (SeesL.ext Ext.push _ _ h2) (fun v hv => ⟨by have := dep_mem hv; omega, by have := sz_mem hv; omega⟩) Ext.push (Nat.lt_succ_self _) get_push h1 h2 (by simp; omega) fun S' k1 k2 k3 => ⟨rfl, ?_⟩
      rw [all_true k3]
      exact ⟨rfl, k1⟩
    | lst vs =>
      obtain ⟨a, la, ds, rfl, ha, ga, h1⟩ := sees_lst hx
      obtain ⟨b, lb, es, rfl, hb, gb, h2⟩ := sees_lst hy
      refine wp_fn hP ⟨rfl, by decide⟩ rfl (ρ := [some _, some _, none, none]) rfl ?_
      have hl : ds.length = es.length := h1.len.symm.trans h2.len
      rw [D.dep] at hd
      rw [D.sz] at hz
      simp [f_law_same, wSs_nil, wSs_cons, then_nx, then_rt, wS_asg, wS_asgS, wS_ret, wS_retN, wS_pas, wS_ex, wS_iff, wE_non, wE_bl, wE_int, wE_str, wE_glob, wE_var, varA_some, wE_bin, wE_cmp, wE_cmp2, c2A_bl, wE_ix, wE_bi, wE_cal, wE_tup, wE_lst, wE_nt, wEs_nil, wEs_cons, wBo_one, wBo_cons, wE_boo, wE_ite, wE_sl, wO_no, wO_so, ofI_int, wE_isi, wE_bm, wI_rng1, rngA_int, wp_ok, ix_str, ix_tup, ix_ref, ixA_lst, ofO_some, add_int, sub_int, mul_int, fdiv_int, mod_int, pow_int, add_str, add_tup, lt_int, le_int, gt_int, ge_int, eq_int, ne_int, eq_str, ne_str, eq_bl, ne_bl, isn_d, isnn_d, in_str, nin_str, truth_bl, truth_int, truth_tup, len_str, len_tup, len_ref, lenA_lst, int_int, set_ref, setA_lst, List.getElem?_cons_zero, List.getElem?_cons_succ, List.getElem?_nil, List.set_cons_zero, List.set_cons_succ, decide_eq_true_eq, Bool.not_eq_true, decide_eq_false_iff_not, List.map_cons, List.map_nil, List.cons_append, List.nil_append, out_nx, out_rt, nthI_nn, Int.reduceLE, Int.reduceToNat, List.length_cons, List.length_nil, set_set, get_set, n_set, n_push, get_push, dty, isDT, hl, ga, gb]
      rw [wE_lc, wI_zip]
      simp only [wSs_nil, wSs_cons, then_nx, then_rt, wS_asg, wS_asgS, wS_ret, wS_retN, wS_pas, wS_ex, wS_iff, wE_non, wE_bl, wE_int, wE_str, wE_glob, wE_var, varA_some, wE_bin, wE_cmp, wE_cmp2, c2A_bl, wE_ix, wE_bi, wE_cal, wE_tup, wE_lst, wE_nt, wEs_nil, wEs_cons, wBo_one, wBo_cons, wE_boo, wE_ite, wE_sl, wO_no, wO_so, ofI_int, wE_isi, wE_bm, wI_rng1, rngA_int, wp_ok, ix_str, ix_tup, ix_ref, ixA_lst, ofO_some, add_int, sub_int, mul_int, fdiv_int, mod_int, pow_int, add_str, add_tup, lt_int, le_int, gt_int, ge_int, eq_int, ne_int, eq_str, ne_str, eq_bl, ne_bl, isn_d, isnn_d, in_str, nin_str, truth_bl, truth_int, truth_tup, len_str, len_tup, len_ref, lenA_lst, int_int, set_ref, setA_lst, List.getElem?_cons_zero, List.getElem?_cons_succ, List.getElem?_nil, List.set_cons_zero, List.set_cons_succ, decide_eq_true_eq, Bool.not_eq_true, decide_eq_false_iff_not, List.map_cons, List.map_nil, List.cons_append, List.nil_append, out_nx, out_rt, nthI_nn, Int.reduceLE, Int.reduceToNat, List.length_cons, List.length_nil, set_set, get_set, n_set, n_push, get_push, zipItems, ga, gb]
      have hz2 : vs.length < lim := by omega
      refine same_loop hP _ S.n S (fun p hp => ?_) (Nat.le_refl _) d (fun v x y S => ih v x y S) ⟨_, _, rfl⟩ vs ds es [] _ (SeesL.ext Ext.push _ _ h1) (SeesL.ext Ext.push _ _ h2) (fun v hv => ⟨by have := dep_mem hv; omega, by have := sz_mem hv; omega⟩) Ext.push (Nat.lt_succ_self _) get_push h1 h2 (by simp; omega) fun S' k1 k2 k3 => ⟨?_, ?_⟩
      · simp only [List.mem_cons, List.not_mem_nil, or_false] at hp
        rcases hp with rfl | rfl
        · exact ⟨ha, ga⟩
        · exact ⟨hb, gb⟩
      · unfold stands
        simp [k1.get _ ha, k1.get _ hb, ga, gb]
      · rw [all_true k3]
        exact ⟨rfl, k1⟩
    | _ =>
      rw [Sees] at hx hy
      subst hx
      subst hy
      refine wp_fn hP ⟨rfl, by decide⟩ rfl (ρ := [some _, some _, none, none]) rfl ?_
      simp [f_law_same, wSs_nil, wSs_cons, then_nx, then_rt, wS_asg, wS_asgS, wS_ret, wS_retN, wS_pas, wS_ex, wS_iff, wE_non, wE_bl, wE_int, wE_str, wE_glob, wE_var, varA_some, wE_bin, wE_cmp, wE_cmp2, c2A_bl, wE_ix, wE_bi, wE_cal, wE_tup, wE_lst, wE_nt, wEs_nil, wEs_cons, wBo_one, wBo_cons, wE_boo, wE_ite, wE_sl, wO_no, wO_so, ofI_int, wE_isi, wE_bm, wI_rng1, rngA_int, wp_ok, ix_str, ix_tup, ix_ref, ixA_lst, ofO_some, add_int, sub_int, mul_int, fdiv_int, mod_int, pow_int, add_str, add_tup, lt_int, le_int, gt_int, ge_int, eq_int, ne_int, eq_str, ne_str, eq_bl, ne_bl, isn_d, isnn_d, in_str, nin_str, truth_bl, truth_int, truth_tup, len_str, len_tup, len_ref, lenA_lst, int_int, set_ref, setA_lst, List.getElem?_cons_zero, List.getElem?_cons_succ, List.getElem?_nil, List.set_cons_zero, List.set_cons_succ, decide_eq_true_eq, Bool.not_eq_true, decide_eq_false_iff_not, List.map_cons, List.map_nil, List.cons_append, List.nil_append, out_nx, out_rt, nthI_nn, Int.reduceLE, Int.reduceToNat, List.length_cons, List.length_nil, set_set, get_set, n_set, n_push, get_push, dty, isDT, Ext.refl]
end
end Lm

namespace Lm
def t_abcdefgh_71c480 : Txt := [97, 98, 99, 100, 101, 102, 103, 104, 105, 106, 107, 108, 109, 110, 111, 112, 113, 114, 115, 116, 117, 118, 119, 120, 121, 122]
def f_is_name : FnT := ⟨1, 2, [], (.cons (.ret (.boo true (.cons (.isi (.var 0) [.tstr]) (.cons (.cmp2 .le .le (.int 1) (.bi .len (.cons (.var 0) .nil)) (.int 8)) (.cons (.bi .all (.cons (.lc (.cmp .inn (.var 1) (.glob [76, 69, 84, 84, 69, 82, 83] (.str t_abcdefgh_71c480))) (.n 1) (.val (.var 0)) .nil [1]) .nil)) .nil))))) .nil)⟩
def f_label_of : FnT := ⟨1, 1, [], (.cons (.ret (.bin .add (.ix (.glob [76, 69, 84, 84, 69, 82, 83] (.str t_abcdefgh_71c480)) (.bin .fdiv (.var 0) (.int 26))) (.ix (.glob [76, 69, 84, 84, 69, 82, 83] (.str t_abcdefgh_71c480)) (.bin .mod (.var 0) (.int 26))))) .nil)⟩
def f_law_constructs : FnT := ⟨0, 0, [], (.cons (.ret (.lst (.cons (.str [100, 111]) (.cons (.str [105, 102]) (.cons (.str [119, 104, 105, 108, 101]) (.cons (.str [117, 110, 116, 105, 108]) (.cons (.str [109, 105, 100, 100, 108, 101]) (.cons (.str [102, 111, 114, 101, 118, 101, 114]) (.cons (.str [98, 108, 111, 99, 107]) (.cons (.str [115, 116, 111, 112]) (.cons (.str [108, 101, 97, 118, 101]) (.cons (.str [97, 103, 97, 105, 110]) .nil)))))))))))) .nil)⟩
def f_law_k02 : FnT := ⟨1, 10, [], (.cons (.asg (.n 1) (.cal 0 (.cons (.var 0) .nil))) (.cons (.asg (.n 2) (.str t_abcdefgh_71c480)) (.cons (.fr (.n 3) (.rng1 (.int 8)) (.cons (.asg (.n 4) (.bm .join (.str []) (.cons (.lc (.cal 2 (.cons (.var 1) (.cons (.var 2) .nil))) (.n 9) (.rng1 (.cal 1 (.cons (.var 1) (.cons (.int 10) .nil)))) .nil [9]) .nil))) (.cons (.asg (.n 5) (.cal 1 (.cons (.var 1) (.cons (.bin .add (.bi .len (.cons (.var 4) .nil)) (.int 1)) .nil)))) (.cons (.asg (.n 6) (.cal 2 (.cons (.var 1) (.cons (.lst (.cons (.str []) (.cons (.str []) (.cons (.str [65]) (.cons (.str [90]) (.cons (.str [48]) (.cons (.str [57]) (.cons (.str [32]) (.cons (.str [95]) (.cons (.str [45]) (.cons (.str [58]) (.cons (.str [10]) (.cons (.str [96]) (.cons (.str [123]) .nil)))))))))))))) .nil)))) (.cons (.asg (.n 7) (.bin .add (.bin .add (.sl (.var 4) .no (.so (.var 5))) (.var 6)) (.sl (.var 4) (.so (.var 5)) .no))) (.cons (.iff (.nt (.cal 3 (.cons (.cal 42 (.cons (.var 7) .nil)) (.cons (.boo true (.cons (.cmp2 .lt .lt (.int 0) (.bi .len (.cons (.var 7) .nil)) (.int 9)) (.cons (.cmp .eq (.var 6) (.str [])) .nil))) .nil)))) (.cons (.ret (.bl false)) .nil) .nil) (.cons (.iff (.nt (.cal 3 (.cons (.cal 42 (.cons (.cal 2 (.cons (.var 1) (.cons (.lst (.cons .non (.cons (.int 0) (.cons (.bl true) (.cons (.int 7) (.cons (.tup .nil) (.cons (.tup (.cons (.str [97]) .nil)) (.cons (.lst (.cons (.str [97]) .nil)) (.cons (.lst .nil) (.cons (.tup (.cons (.str [97]) (.cons (.str [98]) .nil))) .nil)))))))))) .nil))) .nil)) (.cons (.bl false) .nil)))) (.cons (.ret (.bl false)) .nil) .nil) (.cons (.asg (.n 8) (.cal 1 (.cons (.var 1) (.cons (.int 100) .nil)))) (.cons (.iff (.nt (.cal 3 (.cons (.cal 43 (.cons (.var 8) .nil)) (.cons (.bin .add (.ix (.var 2) (.bin .fdiv (.var 8) (.int 26))) (.ix (.var 2) (.bin .mod (.var 8) (.int 26)))) .nil)))) (.cons (.ret (.bl false)) .nil) .nil) .nil))))))))) (.cons (.ret (.cal 3 (.cons (.glob [67, 79, 78, 83, 84, 82, 85, 67, 84, 83] (.tup [(.str [100, 111]), (.str [105, 102]), (.str [119, 104, 105, 108, 101]), (.str [117, 110, 116, 105, 108]), (.str [109, 105, 100, 100, 108, 101]), (.str [102, 111, 114, 101, 118, 101, 114]), (.str [98, 108, 111, 99, 107]), (.str [115, 116, 111, 112]), (.str [108, 101, 97, 118, 101]), (.str [97, 103, 97, 105, 110])])) (.cons (.bi .tuple (.cons (.cal 44 .nil) .nil)) .nil)))) .nil))))⟩
abbrev abc : Txt := t_abcdefgh_71c480
theorem is_name_wp {P : Prog} {d : Nat} {s : Txt} {S : St} (hP : P.fn 42 = some f_is_name) (hs : s.length < lim) :
    WP (evFn P (d + 1) 42 [.str s] S) fun r S' => r = .bl (decide (1 ≤ s.length ∧ s.length ≤ 8) && s.all fun c => decide (c ∈ abc)) ∧ Ext S S' := by
  refine wp_fn hP ⟨rfl, by decide⟩ rfl (ρ := [some _, none]) rfl ?_
  have key : lcLoop (lcG ⟨P, evFn P d, fuel⟩ (.cmp .inn (.var 1) (.glob [76, 69, 84, 84, 69, 82, 83] (.str abc))) (.n 1) .nil [1] [some (.str s), none]) [] S.n (s.map fun c => .str [c]) [] (S.push (.lst false [])) =
      .ok () (S.push (.lst false (s.map fun c => .bl (decide (c ∈ abc))))) := by
    rw [lc_map (fun x => match x with | D.str [c] => D.bl (decide (c ∈ abc)) | _ => D.non) (fun _ => rfl) _ _ (fun x hx acc => ?_) (by simp; omega)]
    · rw [List.nil_append, List.map_map]; rfl
    · obtain ⟨c, _, rfl⟩ := List.mem_map.mp hx
      rw [lcG0]
      show WP (ofO (some ([some (.str s), some (.str [c])] : Env)) _) _
      simp only [wSs_nil, wSs_cons, then_nx, then_rt, wS_asg, wS_asgS, wS_ret, wS_retN, wS_pas, wS_ex, wS_iff, wE_non, wE_bl, wE_int, wE_str, wE_glob, wE_var, varA_some, wE_bin, wE_cmp, wE_cmp2, c2A_bl, wE_ix, wE_bi, wE_cal, wE_tup, wE_lst, wE_nt, wEs_nil, wEs_cons, wBo_one, wBo_cons, wE_boo, wE_ite, wE_sl, wO_no, wO_so, ofI_int, wE_isi, wE_bm, wI_rng1, rngA_int, wp_ok, ix_str, ix_tup, ix_ref, ixA_lst, ofO_some, add_int, sub_int, mul_int, fdiv_int, mod_int, pow_int, add_str, add_tup, lt_int, le_int, gt_int, ge_int, eq_int, ne_int, eq_str, ne_str, eq_bl, ne_bl, isn_d, isnn_d, in_str, nin_str, truth_bl, truth_int, truth_tup, len_str, len_tup, len_ref, lenA_lst, int_int, set_ref, setA_lst, List.getElem?_cons_zero, List.getElem?_cons_succ, List.getElem?_nil, List.set_cons_zero, List.set_cons_succ, decide_eq_true_eq, Bool.not_eq_true, decide_eq_false_iff_not, List.map_cons, List.map_nil, List.cons_append, List.nil_append, out_nx, out_rt, nthI_nn, Int.reduceLE, Int.reduceToNat, List.length_cons, List.length_nil, set_set, get_set, n_set, n_push, get_push, and_self]
  simp only [f_is_name, wSs_nil, wSs_cons, then_nx, then_rt, wS_asg, wS_asgS, wS_ret, wS_retN, wS_pas, wS_ex, wS_iff, wE_non, wE_bl, wE_int, wE_str, wE_glob, wE_var, varA_some, wE_bin, wE_cmp, wE_cmp2, c2A_bl, wE_ix, wE_bi, wE_cal, wE_tup, wE_lst, wE_nt, wEs_nil, wEs_cons, wBo_one, wBo_cons, wE_boo, wE_ite, wE_sl, wO_no, wO_so, ofI_int, wE_isi, wE_bm, wI_rng1, rngA_int, wp_ok, ix_str, ix_tup, ix_ref, ixA_lst, ofO_some, add_int, sub_int, mul_int, fdiv_int, mod_int, pow_int, add_str, add_tup, lt_int, le_int, gt_int, ge_int, eq_int, ne_int, eq_str, ne_str, eq_bl, ne_bl, isn_d, isnn_d, in_str, nin_str, truth_bl, truth_int, truth_tup, len_str, len_tup, len_ref, lenA_lst, int_int, set_ref, setA_lst, List.getElem?_cons_zero, List.getElem?_cons_succ, List.getElem?_nil, List.set_cons_zero, List.set_cons_succ, decide_eq_true_eq, Bool.not_eq_true, decide_eq_false_iff_not, List.map_cons, List.map_nil, List.cons_append, List.nil_append, out_nx, out_rt, nthI_nn, Int.reduceLE, Int.reduceToNat, List.length_cons, List.length_nil, set_set, get_set, n_set, n_push, get_push, dty, isDT, wE_lc, wI_val, itemsOf, List.any_cons, List.any_nil, Bool.or_false, key]
  have hb := all_bl (S := S.push (.lst false (s.map fun c => .bl (decide (c ∈ abc))))) (a := S.n) (xs := s) (p := fun c => decide (c ∈ abc)) get_push
  rw [hb]
  simp only [wSs_nil, wSs_cons, then_nx, then_rt, wS_asg, wS_asgS, wS_ret, wS_retN, wS_pas, wS_ex, wS_iff, wE_non, wE_bl, wE_int, wE_str, wE_glob, wE_var, varA_some, wE_bin, wE_cmp, wE_cmp2, c2A_bl, wE_ix, wE_bi, wE_cal, wE_tup, wE_lst, wE_nt, wEs_nil, wEs_cons, wBo_one, wBo_cons, wE_boo, wE_ite, wE_sl, wO_no, wO_so, ofI_int, wE_isi, wE_bm, wI_rng1, rngA_int, wp_ok, ix_str, ix_tup, ix_ref, ixA_lst, ofO_some, add_int, sub_int, mul_int, fdiv_int, mod_int, pow_int, add_str, add_tup, lt_int, le_int, gt_int, ge_int, eq_int, ne_int, eq_str, ne_str, eq_bl, ne_bl, isn_d, isnn_d, in_str, nin_str, truth_bl, truth_int, truth_tup, len_str, len_tup, len_ref, lenA_lst, int_int, set_ref, setA_lst, List.getElem?_cons_zero, List.getElem?_cons_succ, List.getElem?_nil, List.set_cons_zero, List.set_cons_succ, decide_eq_true_eq, Bool.not_eq_true, decide_eq_false_iff_not, List.map_cons, List.map_nil, List.cons_append, List.nil_append, out_nx, out_rt, nthI_nn, Int.reduceLE, Int.reduceToNat, List.length_cons, List.length_nil, set_set, get_set, n_set, n_push, get_push]
  by_cases h1 : 1 ≤ s.length <;> by_cases h2 : s.length ≤ 8 <;> simp [h1, h2, Ext.refl, Ext.push, stands] <;> omega
theorem is_name_no {P : Prog} {d : Nat} {x : D} {S : St} {t : DT} (hP : P.fn 42 = some f_is_name) (h : dty P S x = some t) (ht : isDT P t .tstr = false) : WP (evFn P (d + 1) 42 [x] S) fun r S' => r = .bl false ∧ S' = S := by
  refine wp_fn hP ⟨rfl, by decide⟩ rfl (ρ := [some _, none]) rfl ?_
  simp [f_is_name, wSs_nil, wSs_cons, then_nx, then_rt, wS_asg, wS_asgS, wS_ret, wS_retN, wS_pas, wS_ex, wS_iff, wE_non, wE_bl, wE_int, wE_str, wE_glob, wE_var, varA_some, wE_bin, wE_cmp, wE_cmp2, c2A_bl, wE_ix, wE_bi, wE_cal, wE_tup, wE_lst, wE_nt, wEs_nil, wEs_cons, wBo_one, wBo_cons, wE_boo, wE_ite, wE_sl, wO_no, wO_so, ofI_int, wE_isi, wE_bm, wI_rng1, rngA_int, wp_ok, ix_str, ix_tup, ix_ref, ixA_lst, ofO_some, add_int, sub_int, mul_int, fdiv_int, mod_int, pow_int, add_str, add_tup, lt_int, le_int, gt_int, ge_int, eq_int, ne_int, eq_str, ne_str, eq_bl, ne_bl, isn_d, isnn_d, in_str, nin_str, truth_bl, truth_int, truth_tup, len_str, len_tup, len_ref, lenA_lst, int_int, set_ref, setA_lst, List.getElem?_cons_zero, List.getElem?_cons_succ, List.getElem?_nil, List.set_cons_zero, List.set_cons_succ, decide_eq_true_eq, Bool.not_eq_true, decide_eq_false_iff_not, List.map_cons, List.map_nil, List.cons_append, List.nil_append, out_nx, out_rt, nthI_nn, Int.reduceLE, Int.reduceToNat, List.length_cons, List.length_nil, set_set, get_set, n_set, n_push, get_push, h, ht]
theorem label_wp {P : Prog} {d : Nat} {n : Int} {S : St} (hP : P.fn 43 = some f_label_of) (h0 : 0 ≤ n) (h1 : n < 100) : WP (evFn P (d + 1) 43 [.int n] S) fun r S' => (∃ a b, nthI abc (n / 26) = some a ∧ nthI abc (n % 26) = some b ∧ r = .str ([a] ++ [b])) ∧ S' = S := by
  refine wp_fn hP ⟨rfl, by decide⟩ rfl (ρ := [some _]) rfl ?_
  simp only [f_label_of, wSs_nil, wSs_cons, then_nx, then_rt, wS_asg, wS_asgS, wS_ret, wS_retN, wS_pas, wS_ex, wS_iff, wE_non, wE_bl, wE_int, wE_str, wE_glob, wE_var, varA_some, wE_bin, wE_cmp, wE_cmp2, c2A_bl, wE_ix, wE_bi, wE_cal, wE_tup, wE_lst, wE_nt, wEs_nil, wEs_cons, wBo_one, wBo_cons, wE_boo, wE_ite, wE_sl, wO_no, wO_so, ofI_int, wE_isi, wE_bm, wI_rng1, rngA_int, wp_ok, ix_str, ix_tup, ix_ref, ixA_lst, ofO_some, add_int, sub_int, mul_int, fdiv_int, mod_int, pow_int, add_str, add_tup, lt_int, le_int, gt_int, ge_int, eq_int, ne_int, eq_str, ne_str, eq_bl, ne_bl, isn_d, isnn_d, in_str, nin_str, truth_bl, truth_int, truth_tup, len_str, len_tup, len_ref, lenA_lst, int_int, set_ref, setA_lst, List.getElem?_cons_zero, List.getElem?_cons_succ, List.getElem?_nil, List.set_cons_zero, List.set_cons_succ, decide_eq_true_eq, Bool.not_eq_true, decide_eq_false_iff_not, List.map_cons, List.map_nil, List.cons_append, List.nil_append, out_nx, out_rt, nthI_nn, Int.reduceLE, Int.reduceToNat, List.length_cons, List.length_nil, set_set, get_set, n_set, n_push, get_push]
  have hl : abc.length = 26 := rfl
  have e1 : nthI abc (n / 26) = some (abc[(n / 26).toNat]'(by omega)) := by rw [nthI_nn (by omega), List.getElem?_eq_getElem]
  have e2 : nthI abc (n % 26) = some (abc[(n % 26).toNat]'(by omega)) := by rw [nthI_nn (by omega), List.getElem?_eq_getElem]
  refine ⟨by omega, _, e1, by decide, by omega, _, e2, by decide, by decide, ⟨_, _, e1, e2, rfl⟩, trivial⟩
theorem constr_wp {P : Prog} {d : Nat} {S : St} (hP : P.fn 44 = some f_law_constructs) : WP (evFn P (d + 1) 44 [] S) fun r S' => r = .ref S.n ∧ S' = S.push (.lst false [.str [100, 111], .str [105, 102], .str [119, 104, 105, 108, 101], .str [117, 110, 116, 105, 108], .str [109, 105, 100, 100, 108, 101], .str [102, 111, 114, 101, 118, 101, 114], .str [98, 108, 111, 99, 107], .str [115, 116, 111, 112], .str [108, 101, 97, 118, 101], .str [97, 103, 97, 105, 110]]) := by
  refine wp_fn hP ⟨rfl, by decide⟩ rfl (ρ := []) rfl ?_
  simp only [f_law_constructs, wSs_nil, wSs_cons, then_nx, then_rt, wS_asg, wS_asgS, wS_ret, wS_retN, wS_pas, wS_ex, wS_iff, wE_non, wE_bl, wE_int, wE_str, wE_glob, wE_var, varA_some, wE_bin, wE_cmp, wE_cmp2, c2A_bl, wE_ix, wE_bi, wE_cal, wE_tup, wE_lst, wE_nt, wEs_nil, wEs_cons, wBo_one, wBo_cons, wE_boo, wE_ite, wE_sl, wO_no, wO_so, ofI_int, wE_isi, wE_bm, wI_rng1, rngA_int, wp_ok, ix_str, ix_tup, ix_ref, ixA_lst, ofO_some, add_int, sub_int, mul_int, fdiv_int, mod_int, pow_int, add_str, add_tup, lt_int, le_int, gt_int, ge_int, eq_int, ne_int, eq_str, ne_str, eq_bl, ne_bl, isn_d, isnn_d, in_str, nin_str, truth_bl, truth_int, truth_tup, len_str, len_tup, len_ref, lenA_lst, int_int, set_ref, setA_lst, List.getElem?_cons_zero, List.getElem?_cons_succ, List.getElem?_nil, List.set_cons_zero, List.set_cons_succ, decide_eq_true_eq, Bool.not_eq_true, decide_eq_false_iff_not, List.map_cons, List.map_nil, List.cons_append, List.nil_append, out_nx, out_rt, nthI_nn, Int.reduceLE, Int.reduceToNat, List.length_cons, List.length_nil, set_set, get_set, n_set, n_push, get_push]
  exact ⟨by decide, trivial, trivial⟩
def signs : List Txt := [[], [], [65], [90], [48], [57], [32], [95], [45], [58], [10], [96], [123]]
theorem signs_ok : ∀ s ∈ signs, s.all (fun c => decide (c ∈ abc)) = decide (s = []) ∧ s.length ≤ 1 := by decide
def P_k02 : Prog := ⟨fun i => [(42, f_is_name), (43, f_label_of), (0, f_law_bag), (1, f_law_draw), (2, f_law_of), (3, f_law_same), (44, f_law_constructs), (45, f_law_k02)].lookup i, fun _ => none⟩
theorem p0 : P_k02.fn 0 = some f_law_bag := rfl
theorem p1 : P_k02.fn 1 = some f_law_draw := rfl
theorem p2 : P_k02.fn 2 = some f_law_of := rfl
theorem p3 : P_k02.fn 3 = some f_law_same := rfl
theorem p42 : P_k02.fn 42 = some f_is_name := rfl
theorem p43 : P_k02.fn 43 = some f_label_of := rfl
theorem p44 : P_k02.fn 44 = some f_law_constructs := rfl
theorem p45 : P_k02.fn 45 = some f_law_k02 := rfl
theorem ev_k02 : ∀ ns : List Int, ns.length ≤ 63 → ∃ S', evFn P_k02 6 45 [.ref 0] (S0 ns) = .ok (.bl true) S' := by
  intro ns _
  suffices h : WP (evFn P_k02 6 45 [.ref 0] (S0 ns)) fun r _ => r = .bl true by
    obtain ⟨r, S', e, rfl⟩ := h.get
    exact ⟨S', e⟩
  refine wp_fn p45 ⟨rfl, by decide⟩ rfl (ρ := [some (.ref 0), none, none, none, none, none, none, none, none, none]) rfl ?_
  simp only [f_law_k02, wSs_nil, wSs_cons, then_nx, then_rt, wS_asg, wS_asgS, wS_ret, wS_retN, wS_pas, wS_ex, wS_iff, wE_non, wE_bl, wE_int, wE_str, wE_glob, wE_var, varA_some, wE_bin, wE_cmp, wE_cmp2, c2A_bl, wE_ix, wE_bi, wE_cal, wE_tup, wE_lst, wE_nt, wEs_nil, wEs_cons, wBo_one, wBo_cons, wE_boo, wE_ite, wE_sl, wO_no, wO_so, ofI_int, wE_isi, wE_bm, wI_rng1, rngA_int, wp_ok, ix_str, ix_tup, ix_ref, ixA_lst, ofO_some, add_int, sub_int, mul_int, fdiv_int, mod_int, pow_int, add_str, add_tup, lt_int, le_int, gt_int, ge_int, eq_int, ne_int, eq_str, ne_str, eq_bl, ne_bl, isn_d, isnn_d, in_str, nin_str, truth_bl, truth_int, truth_tup, len_str, len_tup, len_ref, lenA_lst, int_int, set_ref, setA_lst, List.getElem?_cons_zero, List.getElem?_cons_succ, List.getElem?_nil, List.set_cons_zero, List.set_cons_succ, decide_eq_true_eq, Bool.not_eq_true, decide_eq_false_iff_not, List.map_cons, List.map_nil, List.cons_append, List.nil_append, out_nx, out_rt, nthI_nn, Int.reduceLE, Int.reduceToNat, List.length_cons, List.length_nil, set_set, get_set, n_set, n_push, get_push, call_eq p0, f_law_bag, Nat.reduceAdd, if_true]
  refine (bag_wp (d := 4) p0).mono fun r S1 ⟨e, hn, hB⟩ => ?_
  subst e
  simp only [wSs_nil, wSs_cons, then_nx, then_rt, wS_asg, wS_asgS, wS_ret, wS_retN, wS_pas, wS_ex, wS_iff, wE_non, wE_bl, wE_int, wE_str, wE_glob, wE_var, varA_some, wE_bin, wE_cmp, wE_cmp2, c2A_bl, wE_ix, wE_bi, wE_cal, wE_tup, wE_lst, wE_nt, wEs_nil, wEs_cons, wBo_one, wBo_cons, wE_boo, wE_ite, wE_sl, wO_no, wO_so, ofI_int, wE_isi, wE_bm, wI_rng1, rngA_int, wp_ok, ix_str, ix_tup, ix_ref, ixA_lst, ofO_some, add_int, sub_int, mul_int, fdiv_int, mod_int, pow_int, add_str, add_tup, lt_int, le_int, gt_int, ge_int, eq_int, ne_int, eq_str, ne_str, eq_bl, ne_bl, isn_d, isnn_d, in_str, nin_str, truth_bl, truth_int, truth_tup, len_str, len_tup, len_ref, lenA_lst, int_int, set_ref, setA_lst, List.getElem?_cons_zero, List.getElem?_cons_succ, List.getElem?_nil, List.set_cons_zero, List.set_cons_succ, decide_eq_true_eq, Bool.not_eq_true, decide_eq_false_iff_not, List.map_cons, List.map_nil, List.cons_append, List.nil_append, out_nx, out_rt, nthI_nn, Int.reduceLE, Int.reduceToNat, List.length_cons, List.length_nil, set_set, get_set, n_set, n_push, get_push, wS_fr]
  refine ⟨by decide, ?_⟩
  refine wp_frLoop (fun xs ρ S => Bag S 3 2 ∧ 4 ≤ S.n ∧ ∃ a b c d e f g, ρ = [some (.ref 0), some (.ref 3), some (.str abc), a, b, c, d, e, f, g]) (fun _ _ _ _ => rfl) ?_ ?_ _ _ _ ⟨hB, Nat.le_of_eq hn.symm, _, _, _, _, _, _, _, rfl⟩
  · rintro x r ρ S ⟨hB, hn, a, b, c, d, e, f, g, rfl⟩
    unfold frG
    rw [wp_bnd]
    show WP (ofO (some [some (.ref 0), some (.ref 3), some (.str abc), some x, b, c, d, e, f, g]) S) _
    simp only [then_nx, ofO_some, wp_ok]
    -- the word
    rw [wSs_cons, wS_asg]
    refine word_wp (b := 3) (c := 2) (d := 3) (s := abc) 9 (by decide) p1 p2 (by decide) (by decide) ?_ ?_
    · simp only [wSs_nil, wSs_cons, then_nx, then_rt, wS_asg, wS_asgS, wS_ret, wS_retN, wS_pas, wS_ex, wS_iff, wE_non, wE_bl, wE_int, wE_str, wE_glob, wE_var, varA_some, wE_bin, wE_cmp, wE_cmp2, c2A_bl, wE_ix, wE_bi, wE_cal, wE_tup, wE_lst, wE_nt, wEs_nil, wEs_cons, wBo_one, wBo_cons, wE_boo, wE_ite, wE_sl, wO_no, wO_so, ofI_int, wE_isi, wE_bm, wI_rng1, rngA_int, wp_ok, ix_str, ix_tup, ix_ref, ixA_lst, ofO_some, add_int, sub_int, mul_int, fdiv_int, mod_int, pow_int, add_str, add_tup, lt_int, le_int, gt_int, ge_int, eq_int, ne_int, eq_str, ne_str, eq_bl, ne_bl, isn_d, isnn_d, in_str, nin_str, truth_bl, truth_int, truth_tup, len_str, len_tup, len_ref, lenA_lst, int_int, set_ref, setA_lst, List.getElem?_cons_zero, List.getElem?_cons_succ, List.getElem?_nil, List.set_cons_zero, List.set_cons_succ, decide_eq_true_eq, Bool.not_eq_true, decide_eq_false_iff_not, List.map_cons, List.map_nil, List.cons_append, List.nil_append, out_nx, out_rt, nthI_nn, Int.reduceLE, Int.reduceToNat, List.length_cons, List.length_nil, set_set, get_set, n_set, n_push, get_push, call_eq p1, f_law_draw, Nat.reduceAdd, if_true]
      refine (draw_wp (d := 4) p1 hB (by decide) (by decide)).mono fun r S1 ⟨i, e, h2, h3, h4, h5, h6⟩ => ?_
      subst e
      simp only [wSs_nil, wSs_cons, then_nx, then_rt, wS_asg, wS_asgS, wS_ret, wS_retN, wS_pas, wS_ex, wS_iff, wE_non, wE_bl, wE_int, wE_str, wE_glob, wE_var, varA_some, wE_bin, wE_cmp, wE_cmp2, c2A_bl, wE_ix, wE_bi, wE_cal, wE_tup, wE_lst, wE_nt, wEs_nil, wEs_cons, wBo_one, wBo_cons, wE_boo, wE_ite, wE_sl, wO_no, wO_so, ofI_int, wE_isi, wE_bm, wI_rng1, rngA_int, wp_ok, ix_str, ix_tup, ix_ref, ixA_lst, ofO_some, add_int, sub_int, mul_int, fdiv_int, mod_int, pow_int, add_str, add_tup, lt_int, le_int, gt_int, ge_int, eq_int, ne_int, eq_str, ne_str, eq_bl, ne_bl, isn_d, isnn_d, in_str, nin_str, truth_bl, truth_int, truth_tup, len_str, len_tup, len_ref, lenA_lst, int_int, set_ref, setA_lst, List.getElem?_cons_zero, List.getElem?_cons_succ, List.getElem?_nil, List.set_cons_zero, List.set_cons_succ, decide_eq_true_eq, Bool.not_eq_true, decide_eq_false_iff_not, List.map_cons, List.map_nil, List.cons_append, List.nil_append, out_nx, out_rt, nthI_nn, Int.reduceLE, Int.reduceToNat, List.length_cons, List.length_nil, set_set, get_set, n_set, n_push, get_push]
      refine ⟨by omega, trivial, by simp; omega, h4, h5, fun x => ⟨_, rfl, rfl, rfl⟩⟩
    intro w S1 hw hwa hB1 hn1
    have hlw : w.length ≤ lim := by unfold lim; omega
    -- the place
    rw [then_nx, wSs_cons]
    simp only [wS_asg, wS_asgS, wS_ret, wS_retN, wS_pas, wS_ex, wS_iff, wE_non, wE_bl, wE_int, wE_str, wE_glob, wE_var, varA_some, wE_bin, wE_cmp, wE_cmp2, c2A_bl, wE_ix, wE_bi, wE_cal, wE_tup, wE_lst, wE_nt, wEs_nil, wEs_cons, wBo_one, wBo_cons, wE_boo, wE_ite, wE_sl, wO_no, wO_so, ofI_int, wE_isi, wE_bm, wI_rng1, rngA_int, wp_ok, ix_str, ix_tup, ix_ref, ixA_lst, ofO_some, add_int, sub_int, mul_int, fdiv_int, mod_int, pow_int, add_str, add_tup, lt_int, le_int, gt_int, ge_int, eq_int, ne_int, eq_str, ne_str, eq_bl, ne_bl, isn_d, isnn_d, in_str, nin_str, truth_bl, truth_int, truth_tup, len_str, len_tup, len_ref, lenA_lst, int_int, set_ref, setA_lst, List.getElem?_cons_zero, List.getElem?_cons_succ, List.getElem?_nil, List.set_cons_zero, List.set_cons_succ, decide_eq_true_eq, Bool.not_eq_true, decide_eq_false_iff_not, List.map_cons, List.map_nil, List.cons_append, List.nil_append, out_nx, out_rt, nthI_nn, Int.reduceLE, Int.reduceToNat, List.length_cons, List.length_nil, set_set, get_set, n_set, n_push, get_push, call_eq p1, f_law_draw, Nat.reduceAdd, if_true]
    refine ⟨hlw, ?_⟩
    refine (draw_wp (d := 4) p1 hB1 (by omega) (by omega)).mono fun r S2 ⟨i, e, h2, h3, hB2, hn2, h6⟩ => ?_
    subst e
    -- the sign
    rw [then_nx, wSs_cons]
    simp only [wS_asg, wS_asgS, wS_ret, wS_retN, wS_pas, wS_ex, wS_iff, wE_non, wE_bl, wE_int, wE_str, wE_glob, wE_var, varA_some, wE_bin, wE_cmp, wE_cmp2, c2A_bl, wE_ix, wE_bi, wE_cal, wE_tup, wE_lst, wE_nt, wEs_nil, wEs_cons, wBo_one, wBo_cons, wE_boo, wE_ite, wE_sl, wO_no, wO_so, ofI_int, wE_isi, wE_bm, wI_rng1, rngA_int, wp_ok, ix_str, ix_tup, ix_ref, ixA_lst, ofO_some, add_int, sub_int, mul_int, fdiv_int, mod_int, pow_int, add_str, add_tup, lt_int, le_int, gt_int, ge_int, eq_int, ne_int, eq_str, ne_str, eq_bl, ne_bl, isn_d, isnn_d, in_str, nin_str, truth_bl, truth_int, truth_tup, len_str, len_tup, len_ref, lenA_lst, int_int, set_ref, setA_lst, List.getElem?_cons_zero, List.getElem?_cons_succ, List.getElem?_nil, List.set_cons_zero, List.set_cons_succ, decide_eq_true_eq, Bool.not_eq_true, decide_eq_false_iff_not, List.map_cons, List.map_nil, List.cons_append, List.nil_append, out_nx, out_rt, nthI_nn, Int.reduceLE, Int.reduceToNat, List.length_cons, List.length_nil, set_set, get_set, n_set, n_push, get_push, call_eq p2, f_law_of, Nat.reduceAdd, if_true]
    refine ⟨by decide, ?_⟩
    have l2 := hB2.lb
    refine (of_lst (d := 3) p1 p2 (hB2.ext Ext.push) (by omega) get_push (by decide) (by decide)).mono fun r S3 ⟨hm, hB3, hn3, h6⟩ => ?_
    obtain ⟨sg, hsg, rfl⟩ : ∃ sg ∈ signs, r = .str sg := by
      simp only [List.mem_cons, List.not_mem_nil, or_false] at hm
      simp only [signs, List.mem_cons, List.not_mem_nil, or_false]
      rcases hm with h | h | h | h | h | h | h | h | h | h | h | h | h <;> exact ⟨_, by simp, h⟩
    obtain ⟨hs1, hs2⟩ := signs_ok sg hsg
    have hn3' : 4 ≤ S3.n := by rw [hn3, n_push]; omega
    -- the text
    rw [then_nx, wSs_cons]
    simp only [wS_asg, wS_asgS, wS_ret, wS_retN, wS_pas, wS_ex, wS_iff, wE_non, wE_bl, wE_int, wE_str, wE_glob, wE_var, varA_some, wE_bin, wE_cmp, wE_cmp2, c2A_bl, wE_ix, wE_bi, wE_cal, wE_tup, wE_lst, wE_nt, wEs_nil, wEs_cons, wBo_one, wBo_cons, wE_boo, wE_ite, wE_sl, wO_no, wO_so, ofI_int, wE_isi, wE_bm, wI_rng1, rngA_int, wp_ok, ix_str, ix_tup, ix_ref, ixA_lst, ofO_some, add_int, sub_int, mul_int, fdiv_int, mod_int, pow_int, add_str, add_tup, lt_int, le_int, gt_int, ge_int, eq_int, ne_int, eq_str, ne_str, eq_bl, ne_bl, isn_d, isnn_d, in_str, nin_str, truth_bl, truth_int, truth_tup, len_str, len_tup, len_ref, lenA_lst, int_int, set_ref, setA_lst, List.getElem?_cons_zero, List.getElem?_cons_succ, List.getElem?_nil, List.set_cons_zero, List.set_cons_succ, decide_eq_true_eq, Bool.not_eq_true, decide_eq_false_iff_not, List.map_cons, List.map_nil, List.cons_append, List.nil_append, out_nx, out_rt, nthI_nn, Int.reduceLE, Int.reduceToNat, List.length_cons, List.length_nil, set_set, get_set, n_set, n_push, get_push, sl_str, cut_to h2, cut_from h2]
    refine ⟨hlw, by simp; unfold lim; omega, hlw, by simp; unfold lim; omega, ?_⟩
    have htl : (w.take i.toNat ++ sg ++ w.drop i.toNat).length < lim := by simp; unfold lim; omega
    have hall : ((w.take i.toNat ++ sg ++ w.drop i.toNat).all fun c => decide (c ∈ abc)) = decide (sg = []) := by
      rw [List.all_append, List.all_append, hs1]
      have e1 : ((w.take i.toNat).all fun c => decide (c ∈ abc)) = true := List.all_eq_true.mpr fun c hc => decide_eq_true (hwa c (List.mem_of_mem_take hc))
      have e2 : ((w.drop i.toNat).all fun c => decide (c ∈ abc)) = true := List.all_eq_true.mpr fun c hc => decide_eq_true (hwa c (List.mem_of_mem_drop hc))
      rw [e1, e2, Bool.true_and, Bool.and_true]
    generalize w.take i.toNat ++ sg ++ w.drop i.toNat = tx at htl hall
    -- is it a name
    rw [then_nx]
    refine wS_chk (fun S' => Bag S' 3 2 ∧ 4 ≤ S'.n) ?_ ?_
    · simp only [wS_asg, wS_asgS, wS_ret, wS_retN, wS_pas, wS_ex, wS_iff, wE_non, wE_bl, wE_int, wE_str, wE_glob, wE_var, varA_some, wE_bin, wE_cmp, wE_cmp2, c2A_bl, wE_ix, wE_bi, wE_cal, wE_tup, wE_lst, wE_nt, wEs_nil, wEs_cons, wBo_one, wBo_cons, wE_boo, wE_ite, wE_sl, wO_no, wO_so, ofI_int, wE_isi, wE_bm, wI_rng1, rngA_int, wp_ok, ix_str, ix_tup, ix_ref, ixA_lst, ofO_some, add_int, sub_int, mul_int, fdiv_int, mod_int, pow_int, add_str, add_tup, lt_int, le_int, gt_int, ge_int, eq_int, ne_int, eq_str, ne_str, eq_bl, ne_bl, isn_d, isnn_d, in_str, nin_str, truth_bl, truth_int, truth_tup, len_str, len_tup, len_ref, lenA_lst, int_int, set_ref, setA_lst, List.getElem?_cons_zero, List.getElem?_cons_succ, List.getElem?_nil, List.set_cons_zero, List.set_cons_succ, decide_eq_true_eq, Bool.not_eq_true, decide_eq_false_iff_not, List.map_cons, List.map_nil, List.cons_append, List.nil_append, out_nx, out_rt, nthI_nn, Int.reduceLE, Int.reduceToNat, List.length_cons, List.length_nil, set_set, get_set, n_set, n_push, get_push, call_eq p3, call_eq p42, f_law_same, f_is_name, Nat.reduceAdd, if_true]
      refine (is_name_wp (d := 4) p42 htl).mono ?_
      rintro _ S4 ⟨rfl, e4⟩
      rw [hall]
      have l3 := e4.n
      have fin : ∀ b b' : Bool, b = b' → WP (evFn P_k02 5 3 [.bl b, .bl b'] S4) fun d S' => d = .bl true ∧ Bag S' 3 2 ∧ 4 ≤ S'.n := by
        rintro b _ rfl
        refine (same_bl (d := 4) p3).mono ?_
        rintro _ S5 ⟨rfl, e6⟩
        have l4 := e6.n
        exact ⟨rfl, (hB3.ext e4).ext e6, by omega⟩
      refine ⟨by omega, fun h5 => ⟨fun h6 => fin _ _ ?_, fun h6 => fin _ _ ?_⟩, fun h5 => ?_⟩
      · have e1 : decide (1 ≤ tx.length ∧ tx.length ≤ 8) = true := decide_eq_true ⟨by omega, by omega⟩
        rw [e1, Bool.true_and]
      · have e1 : decide (1 ≤ tx.length ∧ tx.length ≤ 8) = false := decide_eq_false (by omega)
        have e2 : decide ((tx.length : Int) < 9) = false := decide_eq_false h6
        rw [e1, e2, Bool.false_and]
      · have e1 : decide (1 ≤ tx.length ∧ tx.length ≤ 8) = false := decide_eq_false (by omega)
        refine ⟨fun z => (by cases z), fun _ => fin _ _ ?_⟩
        rw [e1, Bool.false_and]
    rintro S4 ⟨hB4, hn4⟩
    -- what is no text
    refine wS_chk (fun S' => Bag S' 3 2 ∧ 4 ≤ S'.n) ?_ ?_
    · simp only [wS_asg, wS_asgS, wS_ret, wS_retN, wS_pas, wS_ex, wS_iff, wE_non, wE_bl, wE_int, wE_str, wE_glob, wE_var, varA_some, wE_bin, wE_cmp, wE_cmp2, c2A_bl, wE_ix, wE_bi, wE_cal, wE_tup, wE_lst, wE_nt, wEs_nil, wEs_cons, wBo_one, wBo_cons, wE_boo, wE_ite, wE_sl, wO_no, wO_so, ofI_int, wE_isi, wE_bm, wI_rng1, rngA_int, wp_ok, ix_str, ix_tup, ix_ref, ixA_lst, ofO_some, add_int, sub_int, mul_int, fdiv_int, mod_int, pow_int, add_str, add_tup, lt_int, le_int, gt_int, ge_int, eq_int, ne_int, eq_str, ne_str, eq_bl, ne_bl, isn_d, isnn_d, in_str, nin_str, truth_bl, truth_int, truth_tup, len_str, len_tup, len_ref, lenA_lst, int_int, set_ref, setA_lst, List.getElem?_cons_zero, List.getElem?_cons_succ, List.getElem?_nil, List.set_cons_zero, List.set_cons_succ, decide_eq_true_eq, Bool.not_eq_true, decide_eq_false_iff_not, List.map_cons, List.map_nil, List.cons_append, List.nil_append, out_nx, out_rt, nthI_nn, Int.reduceLE, Int.reduceToNat, List.length_cons, List.length_nil, set_set, get_set, n_set, n_push, get_push, call_eq p3, call_eq p2, call_eq p42, f_law_same, f_law_of, f_is_name, Nat.reduceAdd, if_true]
      refine ⟨by decide, by decide, by decide, by decide, by decide, by decide, ?_⟩
      have l4 := hB4.lb
      have hB4' := ((hB4.ext (Ext.push (o := .lst false [.str [97]]))).ext (Ext.push (o := .lst false []))).ext (Ext.push (o := .lst false [.non, .int 0, .bl true, .int 7, .tup [], .tup [.str [97]], .ref S4.n, .ref (S4.n + 1), .tup [.str [97], .str [98]]]))
      refine (of_lst (a := S4.n + 1 + 1) (d := 3) p1 p2 hB4' (by omega) get_push (by simp) (by simp)).mono fun r S5 ⟨hm, hB5, hn5, h7⟩ => ?_
      have g0 : S5.get S4.n = some (.lst false [.str [97]]) := by
        rw [h7 S4.n (by omega), get_push_ne (by simp only [n_push]; omega), get_push_ne (by simp only [n_push]; omega), get_push]
      have g1 : S5.get (S4.n + 1) = some (.lst false []) := by
        rw [h7 (S4.n + 1) (by omega), get_push_ne (by simp only [n_push]; omega)]
        exact get_push
      have hdt : ∃ t, dty P_k02 S5 r = some t ∧ isDT P_k02 t .tstr = false := by
        simp only [List.mem_cons, List.not_mem_nil, or_false] at hm
        rcases hm with rfl | rfl | rfl | rfl | rfl | rfl | rfl | rfl | rfl
        · exact ⟨_, rfl, rfl⟩
        · exact ⟨_, rfl, rfl⟩
        · exact ⟨_, rfl, rfl⟩
        · exact ⟨_, rfl, rfl⟩
        · exact ⟨_, rfl, rfl⟩
        · exact ⟨_, rfl, rfl⟩
        · exact ⟨.lst, by simp only [dty, g0], rfl⟩
        · exact ⟨.lst, by simp only [dty, g1], rfl⟩
        · exact ⟨_, rfl, rfl⟩
      obtain ⟨t, ht1, ht2⟩ := hdt
      refine (is_name_no (d := 4) p42 ht1 ht2).mono ?_
      rintro _ S5' ⟨rfl, hS⟩
      rw [hS]
      refine (same_bl (d := 4) p3).mono ?_
      rintro _ S6 ⟨rfl, e6⟩
      have l5 := e6.n
      have l6 : S5.n = S4.n + 1 + 1 + 1 := hn5
      exact ⟨rfl, hB5.ext e6, by omega⟩
    rintro S5 ⟨hB5, hn5⟩
    -- a number
    rw [wSs_cons]
    simp only [wS_asg, wS_asgS, wS_ret, wS_retN, wS_pas, wS_ex, wS_iff, wE_non, wE_bl, wE_int, wE_str, wE_glob, wE_var, varA_some, wE_bin, wE_cmp, wE_cmp2, c2A_bl, wE_ix, wE_bi, wE_cal, wE_tup, wE_lst, wE_nt, wEs_nil, wEs_cons, wBo_one, wBo_cons, wE_boo, wE_ite, wE_sl, wO_no, wO_so, ofI_int, wE_isi, wE_bm, wI_rng1, rngA_int, wp_ok, ix_str, ix_tup, ix_ref, ixA_lst, ofO_some, add_int, sub_int, mul_int, fdiv_int, mod_int, pow_int, add_str, add_tup, lt_int, le_int, gt_int, ge_int, eq_int, ne_int, eq_str, ne_str, eq_bl, ne_bl, isn_d, isnn_d, in_str, nin_str, truth_bl, truth_int, truth_tup, len_str, len_tup, len_ref, lenA_lst, int_int, set_ref, setA_lst, List.getElem?_cons_zero, List.getElem?_cons_succ, List.getElem?_nil, List.set_cons_zero, List.set_cons_succ, decide_eq_true_eq, Bool.not_eq_true, decide_eq_false_iff_not, List.map_cons, List.map_nil, List.cons_append, List.nil_append, out_nx, out_rt, nthI_nn, Int.reduceLE, Int.reduceToNat, List.length_cons, List.length_nil, set_set, get_set, n_set, n_push, get_push, call_eq p1, f_law_draw, Nat.reduceAdd, if_true]
    refine (draw_wp (d := 4) p1 hB5 (by decide) (by decide)).mono fun r S6 ⟨i, e, h2, h3, hB6, hn6, h6⟩ => ?_
    subst e
    rw [then_nx]
    refine wS_chk (fun S' => Bag S' 3 2 ∧ 4 ≤ S'.n) ?_ ?_
    · simp only [wS_asg, wS_asgS, wS_ret, wS_retN, wS_pas, wS_ex, wS_iff, wE_non, wE_bl, wE_int, wE_str, wE_glob, wE_var, varA_some, wE_bin, wE_cmp, wE_cmp2, c2A_bl, wE_ix, wE_bi, wE_cal, wE_tup, wE_lst, wE_nt, wEs_nil, wEs_cons, wBo_one, wBo_cons, wE_boo, wE_ite, wE_sl, wO_no, wO_so, ofI_int, wE_isi, wE_bm, wI_rng1, rngA_int, wp_ok, ix_str, ix_tup, ix_ref, ixA_lst, ofO_some, add_int, sub_int, mul_int, fdiv_int, mod_int, pow_int, add_str, add_tup, lt_int, le_int, gt_int, ge_int, eq_int, ne_int, eq_str, ne_str, eq_bl, ne_bl, isn_d, isnn_d, in_str, nin_str, truth_bl, truth_int, truth_tup, len_str, len_tup, len_ref, lenA_lst, int_int, set_ref, setA_lst, List.getElem?_cons_zero, List.getElem?_cons_succ, List.getElem?_nil, List.set_cons_zero, List.set_cons_succ, decide_eq_true_eq, Bool.not_eq_true, decide_eq_false_iff_not, List.map_cons, List.map_nil, List.cons_append, List.nil_append, out_nx, out_rt, nthI_nn, Int.reduceLE, Int.reduceToNat, List.length_cons, List.length_nil, set_set, get_set, n_set, n_push, get_push, call_eq p3, call_eq p43, f_law_same, f_label_of, Nat.reduceAdd, if_true]
      refine (label_wp (d := 4) p43 h2 h3).mono ?_
      rintro _ _ ⟨⟨y, z, e1, e2, rfl⟩, rfl⟩
      refine ⟨by omega, y, e1, by decide, by omega, z, e2, by decide, by decide, ?_⟩
      refine (same_str (d := 4) p3).mono ?_
      rintro _ S7 ⟨rfl, e6⟩
      have l4 := e6.n
      exact ⟨rfl, hB6.ext e6, by omega⟩
    rintro S7 ⟨hB7, hn7⟩
    rw [wSs_nil]
    exact ⟨hB7, hn7, _, _, _, _, _, _, _, rfl⟩
  · rintro ρ S ⟨hB, hn, a, b, c, d, e, f, g, rfl⟩
    simp only [wSs_nil, wSs_cons, then_nx, then_rt, wS_asg, wS_asgS, wS_ret, wS_retN, wS_pas, wS_ex, wS_iff, wE_non, wE_bl, wE_int, wE_str, wE_glob, wE_var, varA_some, wE_bin, wE_cmp, wE_cmp2, c2A_bl, wE_ix, wE_bi, wE_cal, wE_tup, wE_lst, wE_nt, wEs_nil, wEs_cons, wBo_one, wBo_cons, wE_boo, wE_ite, wE_sl, wO_no, wO_so, ofI_int, wE_isi, wE_bm, wI_rng1, rngA_int, wp_ok, ix_str, ix_tup, ix_ref, ixA_lst, ofO_some, add_int, sub_int, mul_int, fdiv_int, mod_int, pow_int, add_str, add_tup, lt_int, le_int, gt_int, ge_int, eq_int, ne_int, eq_str, ne_str, eq_bl, ne_bl, isn_d, isnn_d, in_str, nin_str, truth_bl, truth_int, truth_tup, len_str, len_tup, len_ref, lenA_lst, int_int, set_ref, setA_lst, List.getElem?_cons_zero, List.getElem?_cons_succ, List.getElem?_nil, List.set_cons_zero, List.set_cons_succ, decide_eq_true_eq, Bool.not_eq_true, decide_eq_false_iff_not, List.map_cons, List.map_nil, List.cons_append, List.nil_append, out_nx, out_rt, nthI_nn, Int.reduceLE, Int.reduceToNat, List.length_cons, List.length_nil, set_set, get_set, n_set, n_push, get_push, call_eq p44, call_eq p3, f_law_constructs, f_law_same, Nat.reduceAdd, if_true]
    refine (constr_wp (d := 4) p44).mono ?_
    rintro _ _ ⟨rfl, rfl⟩
    have e : opBi .tuple [.ref S.n] (S.push (.lst false ([[100, 111], [105, 102], [119, 104, 105, 108, 101], [117, 110, 116, 105, 108], [109, 105, 100, 100, 108, 101], [102, 111, 114, 101, 118, 101, 114], [98, 108, 111, 99, 107], [115, 116, 111, 112], [108, 101, 97, 118, 101], [97, 103, 97, 105, 110]].map D.str))) = .ok (.tup ([[100, 111], [105, 102], [119, 104, 105, 108, 101], [117, 110, 116, 105, 108], [109, 105, 100, 100, 108, 101], [102, 111, 114, 101, 118, 101, 114], [98, 108, 111, 99, 107], [115, 116, 111, 112], [108, 101, 97, 118, 101], [97, 103, 97, 105, 110]].map D.str)) (S.push (.lst false ([[100, 111], [105, 102], [119, 104, 105, 108, 101], [117, 110, 116, 105, 108], [109, 105, 100, 100, 108, 101], [102, 111, 114, 101, 118, 101, 114], [98, 108, 111, 99, 107], [115, 116, 111, 112], [108, 101, 97, 118, 101], [97, 103, 97, 105, 110]].map D.str))) := by
      show bTuple _ (.ref S.n) = _
      simp only [bTuple, asLst, get_push]
    simp only [List.map_cons, List.map_nil] at e
    rw [e, wp_ok]
    have hs : ∀ S : St, Sees S (.tup ([[100, 111], [105, 102], [119, 104, 105, 108, 101], [117, 110, 116, 105, 108], [109, 105, 100, 100, 108, 101], [102, 111, 114, 101, 118, 101, 114], [98, 108, 111, 99, 107], [115, 116, 111, 112], [108, 101, 97, 118, 101], [97, 103, 97, 105, 110]].map D.str)) (.tup ([[100, 111], [105, 102], [119, 104, 105, 108, 101], [117, 110, 116, 105, 108], [109, 105, 100, 100, 108, 101], [102, 111, 114, 101, 118, 101, 114], [98, 108, 111, 99, 107], [115, 116, 111, 112], [108, 101, 97, 118, 101], [97, 103, 97, 105, 110]].map D.str)) := fun S => by
      rw [Sees]
      exact ⟨_, rfl, SeesL.strs _⟩
    exact (same_wp p3 4 _ _ _ _ (hs _) (hs _) (by decide) (by decide)).mono fun _ _ h => h.1
end Lm

namespace K02
open PySem PySem.Spec PyProof.Rows L2 Lm
def top (i : Nat) : Stmt := PySem.Challenge.pw_loopmenus_k02_names_judged.main.body.getD i (.Pass ⟨0, 0, 0, 0⟩)
def u42 : Un := ⟨42, "is_name", "is_name", defArgs (top 3), defBody (top 3), defScope (top 3), ["value", "letter"], ["value"]⟩
def u43 : Un := ⟨43, "label_of", "label_of", defArgs (top 4), defBody (top 4), defScope (top 4), ["number"], ["number"]⟩
def u0 : Un := ⟨0, "_law_bag", "_law_bag", defArgs (top 6), defBody (top 6), defScope (top 6), ["_law_script"], ["_law_script"]⟩
def u1 : Un := ⟨1, "_law_draw", "_law_draw", defArgs (top 7), defBody (top 7), defScope (top 7), ["_law_bag_here", "_law_many", "_law_cell", "_law_digit", "_law_seed"], ["_law_bag_here", "_law_many"]⟩
def u2 : Un := ⟨2, "_law_of", "_law_of", defArgs (top 8), defBody (top 8), defScope (top 8), ["_law_bag_here", "_law_some"], ["_law_bag_here", "_law_some"]⟩
def u3 : Un := ⟨3, "_law_same", "_law_same", defArgs (top 9), defBody (top 9), defScope (top 9), ["_law_found", "_law_due", "_law_one", "_law_two"], ["_law_found", "_law_due"]⟩
def u44 : Un := ⟨44, "_law_constructs", "_law_constructs", defArgs (top 10), defBody (top 10), defScope (top 10), [], []⟩
def u45 : Un := ⟨45, "law", "law", defArgs (top 11), defBody (top 11), defScope (top 11), ["_law_script", "_law_bag_here", "_law_letters", "_law_turn", "_law_word", "_law_at", "_law_sign", "_law_text", "_law_number", "_law_k"], ["_law_script"]⟩
def us : List Un := [u42, u43, u0, u1, u2, u3, u44, u45]
def T : Tab := ⟨[(42, "is_name"), (43, "label_of"), (0, "_law_bag"), (1, "_law_draw"), (2, "_law_of"), (3, "_law_same"), (44, "_law_constructs"), (45, "law")], [([76, 69, 84, 84, 69, 82, 83], (.str t_abcdefgh_71c480)), ([67, 79, 78, 83, 84, 82, 85, 67, 84, 83], (.tup [(.str [100, 111]), (.str [105, 102]), (.str [119, 104, 105, 108, 101]), (.str [117, 110, 116, 105, 108]), (.str [109, 105, 100, 100, 108, 101]), (.str [102, 111, 114, 101, 118, 101, 114]), (.str [98, 108, 111, 99, 107]), (.str [115, 116, 111, 112]), (.str [108, 101, 97, 118, 101]), (.str [97, 103, 97, 105, 110])]))], ["len", "int", "str", "list", "tuple", "all", "isinstance", "range", "zip", "bool"], [.tlist, .ttuple, .tstr, .tbool, .tint]⟩
theorem hT : chkT T us = true := by decide +kernel
theorem hc0 : us.all (chkUn T P_k02) = true := by decide +kernel
theorem hb : ∀ u ∈ us, ∀ (kV doc pm : Value) (an : Option Addr) (cdv ct : Value) (vs : List Value), vs.length = u.ps.length → bindArgs (PySem.W.fnOf u.name u.qual u.params u.body u.scope .none kV doc pm an cdv ct) ⟨vs, []⟩ = pure (u.ps.zip vs) := by
  intro u hu
  simp only [us, List.mem_cons, List.not_mem_nil, or_false] at hu
  rcases hu with rfl | rfl | rfl | rfl | rfl | rfl | rfl | rfl
  · exact fun kV doc pm an cdv ct vs hl => match vs, hl with | [_], _ => rfl
  · exact fun kV doc pm an cdv ct vs hl => match vs, hl with | [_], _ => rfl
  · exact fun kV doc pm an cdv ct vs hl => match vs, hl with | [_], _ => rfl
  · exact fun kV doc pm an cdv ct vs hl => match vs, hl with | [_, _], _ => rfl
  · exact fun kV doc pm an cdv ct vs hl => match vs, hl with | [_, _], _ => rfl
  · exact fun kV doc pm an cdv ct vs hl => match vs, hl with | [_, _], _ => rfl
  · exact fun kV doc pm an cdv ct vs hl => match vs, hl with | [], _ => rfl
  · exact fun kV doc pm an cdv ct vs hl => match vs, hl with | [_], _ => rfl
abbrev Rw : PySem.W.OpenRow := PySem.W.OpenLaw.row PySem.Challenge.rw_loopmenus_k02_names_judged
def names : List PySem.Str := ["LETTERS", "CONSTRUCTS", "is_name", "label_of", "_law_bag", "_law_draw", "_law_of", "_law_same", "_law_constructs"]
theorem run (w : World) : HandSHeadRun.RunEq Rw (PySem.W.view Rw.prog [11]) (hookM 4 T us) (obM 4 T us) 4000 names w := by
  intro os
  kernel_rfl
end K02
open PySem PySem.W PySem.Calls PyProof.Rows
theorem PySem.Challenge.cw_loopmenus_k02_names_judged_holds : PySem.Challenge.rw_loopmenus_k02_names_judged.Holds := by
  w_on; o_law
  refine HandSHeadRun.head_any (r := OpenLaw.row PySem.Challenge.rw_loopmenus_k02_names_judged) (q := view (OpenLaw.row PySem.Challenge.rw_loopmenus_k02_names_judged).prog [11]) (H := Lm.hookM 4 K02.T K02.us) (ob := Lm.obM 4 K02.T K02.us) (M := 4000) (loose := K02.names) (d := HandSHeadRun.topDef (OpenLaw.row PySem.Challenge.rw_loopmenus_k02_names_judged).prog 11) (kwd := []) (Lm.obM_eq 4 K02.T K02.us)
    (by kernel_rfl) (fun s => by kernel_rfl) K02.run (by kernel_rfl) (by kernel_rfl) (by kernel_rfl) (by rfl) (by first | assumption | decide +kernel) (by decide +kernel) ⟨rfl, rfl, rfl, rfl, rfl, by decide +kernel⟩ ?hw ?hc
  case hw => w_witness2
  case hc =>
    exact Lm.walkM (l := PySem.Challenge.rw_loopmenus_k02_names_judged) (d := 6) (x := "_law_script") (T := K02.T) (P := Lm.P_k02) (us := K02.us) (lu := K02.u45) rfl (by kernel_rfl) ⟨rfl, by decide, by decide⟩ (by simp [K02.us]) (by kernel_rfl) rfl K02.hT K02.hc0 (fun _ => rfl) (by decide) K02.hb Lm.ev_k02
