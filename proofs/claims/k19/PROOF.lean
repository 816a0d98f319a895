import PyProof.Rows.All
import Wide.All
import OpenK.AllK
import Wide.FinOn
import HandS.ForMost
import HandS.TupAny
import HandS.Wide
import HandS.WideBits
import HandS.Deep
import HandS.SortInts
import HandS.IsInst
import HandS.TupLe
import HandS.Rev
import HandS.Zip
import KE.KBits
import PySem.Challenge.RW_cheapestornone_k19_useless_and_dominatin
set_option Elab.async false
set_option linter.all false
set_option maxRecDepth 100000
set_option maxHeartbeats 2000000
/-! The core: data by value, a store of what may change, core syntax, its meaning. -/
namespace Py
open PySem

/-- data: by value but for `ref n`, the n-th entry of the store -/
inductive D where
  | non | bl (b : Bool) | int (i : Int) | str (x : Str) | tup (xs : List D) | lst (xs : List D) | obj (c : Nat) (vs : List D) | ref (n : Nat)
/-- what an entry of the store holds -/
inductive O where
  | lst (xs : List D) | ins (c : Nat) (vs : List D)
abbrev Sto := List O
inductive R (α : Type) where
  | ok (a : α) (S : Sto) | exc (e : D) (S : Sto) | bad
def R.bind {α β : Type} (r : R α) (f : α → Sto → R β) : R β := match r with
  | .ok a S => f a S
  | .exc e S => .exc e S
  | .bad => .bad
@[simp] theorem bind_ok {α β : Type} (a : α) (S : Sto) (f : α → Sto → R β) : (R.ok a S).bind f = f a S := rfl
@[simp] theorem bind_exc {α β : Type} (e : D) (S : Sto) (f : α → Sto → R β) : (R.exc e S : R α).bind f = .exc e S := rfl
@[simp] theorem bind_bad {α β : Type} (f : α → Sto → R β) : (R.bad : R α).bind f = .bad := rfl

mutual
def D.beq : D → D → Bool
  | .non, .non => true
  | .bl a, .bl b => a == b
  | .int a, .int b => decide (a = b)
  | .str a, .str b => decide (a = b)
  | .tup a, .tup b => D.beqs a b
  | .lst a, .lst b => D.beqs a b
  | .obj c a, .obj d b => decide (c = d) && D.beqs a b
  | .ref a, .ref b => decide (a = b)
  | _, _ => false
def D.beqs : List D → List D → Bool
  | [], [] => true
  | a :: as, b :: bs => D.beq a b && D.beqs as bs
  | _, _ => false
end
mutual
theorem D.beq_eq : ∀ a b : D, D.beq a b = true ↔ a = b
  | .non, b => by cases b <;> simp [D.beq]
  | .bl a, b => by cases b <;> simp [D.beq]
  | .int a, b => by cases b <;> simp [D.beq]
  | .str a, b => by cases b <;> simp [D.beq]
  | .tup a, b => by
    cases b <;> simp [D.beq]
    exact D.beqs_eq a _
  | .lst a, b => by
    cases b <;> simp [D.beq]
    exact D.beqs_eq a _
  | .obj c a, b => by
    cases b <;> simp [D.beq]
    rw [D.beqs_eq a _]; intro _; trivial
  | .ref a, b => by cases b <;> simp [D.beq]
theorem D.beqs_eq : ∀ a b : List D, D.beqs a b = true ↔ a = b
  | [], b => by cases b <;> simp [D.beqs]
  | a :: as, b => by
    cases b with
    | nil => simp [D.beqs]
    | cons b bs => rw [D.beqs, Bool.and_eq_true, D.beq_eq a b, D.beqs_eq as bs]; simp
end
instance : DecidableEq D := fun a b => decidable_of_iff _ (D.beq_eq a b)
instance : DecidableEq O
  | .lst a, .lst b => if h : a = b then .isTrue (by rw [h]) else .isFalse (fun e => h (by cases e; rfl))
  | .ins c a, .ins d b => if h : c = d ∧ a = b then .isTrue (by rw [h.1, h.2]) else .isFalse (fun e => h (by cases e; exact ⟨rfl, rfl⟩))
  | .lst _, .ins _ _ => .isFalse (fun e => by cases e)
  | .ins _ _, .lst _ => .isFalse (fun e => by cases e)
instance : Inhabited D := ⟨.non⟩
instance : Inhabited O := ⟨.lst []⟩

/-! ### the store -/
mutual
/-- the refs replaced -/
def D.mapR (k : Nat → Option D) : D → Option D
  | .ref n => k n
  | .tup xs => (D.mapRs k xs).map .tup
  | .lst xs => (D.mapRs k xs).map .lst
  | .obj c xs => (D.mapRs k xs).map (.obj c)
  | .non => some .non
  | .bl b => some (.bl b)
  | .int i => some (.int i)
  | .str x => some (.str x)
def D.mapRs (k : Nat → Option D) : List D → Option (List D)
  | [] => some []
  | x :: xs => (D.mapR k x).bind fun y => (D.mapRs k xs).map (y :: ·)
end
mutual
/-- no refs -/
def D.pure : D → Bool
  | .ref _ => false
  | .tup xs => D.pures xs
  | .lst xs => D.pures xs
  | .obj _ xs => D.pures xs
  | .non => true
  | .bl _ => true
  | .int _ => true
  | .str _ => true
def D.pures : List D → Bool
  | [] => true
  | x :: xs => D.pure x && D.pures xs
end
mutual
theorem D.mapR_pure (k : Nat → Option D) : ∀ d : D, d.pure = true → d.mapR k = some d
  | .ref _, h => by simp [D.pure] at h
  | .tup xs, h => by rw [D.mapR, D.mapRs_pure k xs (by simpa [D.pure] using h)]; rfl
  | .lst xs, h => by rw [D.mapR, D.mapRs_pure k xs (by simpa [D.pure] using h)]; rfl
  | .obj c xs, h => by rw [D.mapR, D.mapRs_pure k xs (by simpa [D.pure] using h)]; rfl
  | .non, _ => rfl
  | .bl _, _ => rfl
  | .int _, _ => rfl
  | .str _, _ => rfl
theorem D.mapRs_pure (k : Nat → Option D) : ∀ ds : List D, D.pures ds = true → D.mapRs k ds = some ds
  | [], _ => rfl
  | x :: xs, h => by
    rw [D.pures, Bool.and_eq_true] at h
    rw [D.mapRs, D.mapR_pure k x h.1, D.mapRs_pure k xs h.2]; rfl
end
def O.mapR (k : Nat → Option D) : O → Option O
  | .lst xs => (D.mapRs k xs).map .lst
  | .ins c xs => (D.mapRs k xs).map (.ins c)
def O.pure : O → Bool
  | .lst xs => D.pures xs
  | .ins _ xs => D.pures xs
theorem O.mapR_pure (k : Nat → Option D) (o : O) (h : o.pure = true) : o.mapR k = some o := by
  cases o with
  | lst xs => rw [O.mapR, D.mapRs_pure k xs h]; rfl
  | ins c xs => rw [O.mapR, D.mapRs_pure k xs h]; rfl
/-- the entry n as data by value, for n from n0 on, but x; below n0 refs stay -/
def rd (S : Sto) (n0 x : Nat) : Nat → Nat → Option D
  | 0, n => if n < n0 then some (.ref n) else none
  | f + 1, n => if n < n0 then some (.ref n) else if n = x then none else match S[n]? with
    | some (.lst xs) => (D.mapRs (rd S n0 x f) xs).map .lst
    | some (.ins c xs) => (D.mapRs (rd S n0 x f) xs).map (.obj c)
    | none => none
/-- the old entries: those that were changed lose their refs to new ones -/
def conv (k : Nat → Option D) : Sto → Sto → Option Sto
  | [], _ => some []
  | o :: S, o' :: S' => (if o' = o then some o else O.mapR k o').bind fun r => (conv k S S').map (r :: ·)
  | _ :: _, [] => none
/-- behind an expression or a call that began at the store S: what it made is by value now -/
def shut (S : Sto) (d : D) (S' : Sto) : R D :=
  match D.mapR (rd S' S.length S'.length 6) d, conv (rd S' S.length S'.length 6) S S' with
  | some d', some S'' => .ok d' S''
  | _, _ => .bad
/-- the same, but a new list or object that is the result itself stays an entry -/
def shutK (S : Sto) (d : D) (S' : Sto) : R D :=
  match d with
  | .ref n => if n < S.length then shut S d S' else
      match (S'[n]?).bind (O.mapR (rd S' S.length n 6)), conv (rd S' S.length n 6) S S' with
      | some o, some S'' => .ok (.ref S.length) (S'' ++ [o])
      | _, _ => .bad
  | _ => shut S d S'
def shutX {α : Type} (S : Sto) (e : D) (S' : Sto) : R α :=
  match D.mapR (rd S' S.length S'.length 6) e, conv (rd S' S.length S'.length 6) S S' with
  | some e', some S'' => .exc e' S''
  | _, _ => .bad

/-- the items of a list or a tuple -/
def seqOf (S : Sto) : D → Option (List D)
  | .lst xs => some xs
  | .tup xs => some xs
  | .ref n => match S[n]? with
    | some (.lst xs) => some xs
    | _ => none
  | _ => none
def isTup : D → Bool
  | .tup _ => true
  | _ => false
/-- the items of a list -/
def lstOf (S : Sto) : D → Option (List D)
  | .lst xs => some xs
  | .ref n => match S[n]? with
    | some (.lst xs) => some xs
    | _ => none
  | _ => none
def insOf (S : Sto) : D → Option (Nat × List D)
  | .obj c vs => some (c, vs)
  | .ref n => match S[n]? with
    | some (.ins c vs) => some (c, vs)
    | _ => none
  | _ => none
abbrev lim : Nat := 16777216

/-! ### equality of data -/
mutual
def D.eqv : D → D → Bool
  | .non, .non => true
  | .bl a, .bl b => a == b
  | .bl a, .int j => (if a then 1 else 0) == j
  | .int i, .bl b => i == (if b then 1 else 0)
  | .int i, .int j => i == j
  | .str x, .str y => x == y
  | .lst a, .lst b => D.eqvs a b
  | .tup a, .tup b => D.eqvs a b
  | _, _ => false
def D.eqvs : List D → List D → Bool
  | [], [] => true
  | a :: as, b :: bs => D.eqv a b && D.eqvs as bs
  | _, _ => false
end
mutual
/-- data that == may compare: no refs, no objects, texts of code points; and its depth -/
def D.dep : D → Option Nat
  | .ref _ => none
  | .obj _ _ => none
  | .tup xs => (D.deps xs).map (· + 1)
  | .lst xs => (D.deps xs).map (· + 1)
  | .non => some 0
  | .bl _ => some 0
  | .int _ => some 0
  | .str x => if PyData.strOk x then some 0 else none
def D.deps : List D → Option Nat
  | [] => some 0
  | x :: xs => (D.dep x).bind fun a => (D.deps xs).map (max a)
end
def D.shp (d : D) : Bool := (D.dep d).any (· ≤ 60)
def rsv (S : Sto) (d : D) : Option D := D.mapR (rd S 0 S.length 6) d
def eqB (S : Sto) (x y : D) : Option Bool := match x, y with
  | .int i, .int j => some (decide (i = j))
  | x, y => (rsv S x).bind fun a => (rsv S y).bind fun b => if D.shp a && D.shp b then some (D.eqv a b) else none
def inB (S : Sto) (x y : D) : Option Bool := (rsv S x).bind fun a => (rsv S y).bind fun b => match b with
  | .lst ys => if D.shp a && D.shp (.lst ys) then some (ys.any fun z => D.eqv z a) else none
  | .tup ys => if D.shp a && D.shp (.tup ys) then some (ys.any fun z => D.eqv z a) else none
  | _ => none

/-! ### operators -/
def mulOk (i j : Int) : Bool := (decide (-(2 ^ 64) < i) && decide (i < 2 ^ 64)) || (decide (-(2 ^ 64) < j) && decide (j < 2 ^ 64)) || decide (i.natAbs.log2 + j.natAbs.log2 < 1000000)
def divOk (j : Int) : Bool := (decide (j ≠ 0) && decide (j.natAbs < 1073741824)) || (decide (0 < j) && decide (j.natAbs.log2 < 9000))
def binI (o : Operator) (i j : Int) : Option Int := match o with
  | .Add => some (i + j)
  | .Sub => some (i - j)
  | .Mult => if mulOk i j then some (i * j) else none
  | .FloorDiv => if divOk j then some (i.fdiv j) else none
  | .Mod => if j ≠ 0 then some (i.fmod j) else none
  | .Pow => if 0 ≤ j ∧ j ≤ 1000000 ∧ i.natAbs < 2 ^ 64 then some (i ^ j.toNat) else none
  | .LShift => if 0 ≤ j ∧ (i.natAbs.log2 : Int) + 1 + j ≤ 134217728 then some (i * 2 ^ j.toNat) else none
  | .RShift => if 0 ≤ j then some (i / 2 ^ j.toNat) else none
  | .BitAnd => some (Builtin.bitAnd i j)
  | .BitOr => some (Builtin.bitOr i j)
  | .BitXor => some (Builtin.bitXor i j)
  | _ => none
def optR {α : Type} (S : Sto) : Option α → R α
  | some a => .ok a S
  | none => .bad
@[simp] theorem optR_some {α : Type} (S : Sto) (a : α) : optR S (some a) = .ok a S := rfl
def binD (o : Operator) (x y : D) (S : Sto) : R D := match x, y with
  | .int i, .int j => (optR S (binI o i j)).bind fun k S => .ok (.int k) S
  | .str a, .str b => if o = .Add ∧ a.length + b.length ≤ lim then .ok (.str (a ++ b)) S else .bad
  | .tup a, .tup b => if o = .Add ∧ a.length + b.length ≤ lim then .ok (.tup (a ++ b)) S else .bad
  | x, y => match lstOf S x, lstOf S y, o with
    | some a, some b, .Add => if a.length + b.length ≤ lim then .ok (.ref S.length) (S ++ [.lst (a ++ b)]) else .bad
    | _, _, _ => .bad
def augD (o : Operator) (x y : D) (S : Sto) : R D := match x, y with
  | .int i, .int j => if o ≠ .Pow ∧ o ≠ .Mod then (optR S (binI o i j)).bind fun k S => .ok (.int k) S else .bad
  | .str a, .str b => if o = .Add ∧ a.length + b.length ≤ lim then .ok (.str (a ++ b)) S else .bad
  | _, _ => .bad
def cmpD (o : CmpOp) (x y : D) (S : Sto) : R D := match o with
  | .Eq => (optR S (eqB S x y)).bind fun b S => .ok (.bl b) S
  | .NotEq => (optR S (eqB S x y)).bind fun b S => .ok (.bl (!b)) S
  | .In => (optR S (inB S x y)).bind fun b S => .ok (.bl b) S
  | .NotIn => (optR S (inB S x y)).bind fun b S => .ok (.bl (!b)) S
  | .Is => (match y, x with
    | .non, x => .ok (.bl (decide (x = .non))) S
    | .bl b, .bl a => .ok (.bl (decide (a = b))) S
    | _, _ => .bad)
  | .IsNot => (match y, x with
    | .non, x => .ok (.bl (!decide (x = .non))) S
    | .bl b, .bl a => .ok (.bl (!decide (a = b))) S
    | _, _ => .bad)
  | .Lt => (match x, y with
    | .int i, .int j => .ok (.bl (decide (i < j))) S
    | _, _ => .bad)
  | .LtE => (match x, y with
    | .int i, .int j => .ok (.bl (decide (i ≤ j))) S
    | _, _ => .bad)
  | .Gt => (match x, y with
    | .int i, .int j => .ok (.bl (decide (j < i))) S
    | _, _ => .bad)
  | .GtE => (match x, y with
    | .int i, .int j => .ok (.bl (decide (j ≤ i))) S
    | _, _ => .bad)
def truD (S : Sto) : D → Option Bool
  | .non => some false
  | .bl b => some b
  | .int i => some (i != 0)
  | .str x => if x.length ≤ lim then some ((x.length : Int) != 0) else none
  | .obj _ _ => none
  | d => (seqOf S d).map fun xs => !xs.isEmpty
/-- the place of an index -/
def ixD (n : Nat) (i : Int) : Option Nat := if 0 ≤ i then (if i < n then some i.toNat else none) else if -(n : Int) ≤ i then some (i + n).toNat else none
def idxD (x y : D) (S : Sto) : R D := match x, y with
  | .str z, .int i => if z.length ≤ lim then (optR S ((ixD z.cps.toList.length i).bind fun j => z.cps.toList[j]?)).bind fun c S => .ok (.str ⟨#[c]⟩) S else .bad
  | x, .int i => (optR S ((seqOf S x).bind fun xs => (ixD xs.length i).bind fun j => xs[j]?))
  | _, _ => .bad
def cutIx (n d : Nat) : Option Int → Nat
  | none => d
  | some v => if v < 0 then (v + (n : Int)).toNat else min v.toNat n
def cutD {α : Type} (xs : List α) (lo hi : Option Int) : List α := (xs.drop (cutIx xs.length 0 lo)).take (cutIx xs.length xs.length hi - cutIx xs.length 0 lo)
def slcD (x : D) (lo hi : Option Int) (S : Sto) : R D := match x with
  | .str z => if z.length ≤ lim then .ok (.str ⟨(cutD z.cps.toList lo hi).toArray⟩) S else .bad
  | .tup xs => .ok (.tup (cutD xs lo hi)) S
  | x => (optR S (lstOf S x)).bind fun xs S => .ok (.ref S.length) (S ++ [.lst (cutD xs lo hi)])

/-! ### built-ins -/
inductive Bi where
  | len | abs | int | str | list | tuple | min2 | max2 | min | max | sum | sorted | any | all | isinst (T : String) | list0 | tuple0
  deriving DecidableEq
def intsOf : List D → Option (List Int)
  | [] => some []
  | .int i :: r => (intsOf r).map (i :: ·)
  | _ => none
def blsOf : List D → Option (List Bool)
  | [] => some []
  | .bl i :: r => (blsOf r).map (i :: ·)
  | _ => none
def tyD (S : Sto) : D → Option String
  | .non => some "NoneType"
  | .bl _ => some "bool"
  | .int _ => some "int"
  | .str _ => some "str"
  | .tup _ => some "tuple"
  | .lst _ => some "list"
  | .ref n => match S[n]? with
    | some (.lst _) => some "list"
    | _ => none
  | .obj _ _ => none
def isTyD (t T : String) : Option Bool :=
  if (t = "NoneType" ∨ t = "bool" ∨ t = "int" ∨ t = "str" ∨ t = "tuple" ∨ t = "list") ∧ (T = "bool" ∨ T = "int" ∨ T = "str" ∨ T = "tuple" ∨ T = "list" ∨ T = "dict") then some (decide (t = T) || (decide (t = "bool") && decide (T = "int"))) else none
def insI (x : Int) : List Int → List Int
  | [] => [x]
  | y :: r => if x ≤ y then x :: y :: r else y :: insI x r
def sortI : List Int → List Int
  | [] => []
  | x :: r => insI x (sortI r)
def maxI (x : Int) : List Int → Int
  | [] => x
  | y :: r => maxI (if y > x then y else x) r
def minI (x : Int) : List Int → Int
  | [] => x
  | y :: r => minI (if y < x then y else x) r
def biD (b : Bi) (ds : List D) (S : Sto) : R D := match b, ds with
  | .len, [.str z] => if z.length ≤ lim then .ok (.int z.length) S else .bad
  | .len, [d] => (optR S (seqOf S d)).bind fun xs S => .ok (.int xs.length) S
  | .abs, [.int i] => .ok (.int (if i < 0 then -i else i)) S
  | .int, [.int i] => .ok (.int i) S
  | .int, [.bl b] => .ok (.int (if b then 1 else 0)) S
  | .str, [.int i] => if i.natAbs.log2 < 1920 then .ok (.str (toString i)) S else .bad
  | .list, [d] => (optR S (seqOf S d)).bind fun xs S => .ok (.ref S.length) (S ++ [.lst xs])
  | .tuple, [d] => (optR S (seqOf S d)).bind fun xs S => .ok (.tup xs) S
  | .min2, [.int i, .int j] => .ok (.int (if j < i then j else i)) S
  | .max2, [.int i, .int j] => .ok (.int (if j > i then j else i)) S
  | .min, [d] => (optR S ((lstOf S d).bind intsOf)).bind fun ns S => (match ns with
    | [] => .bad
    | n :: r => .ok (.int (minI n r)) S)
  | .max, [d] => (optR S ((lstOf S d).bind intsOf)).bind fun ns S => (match ns with
    | [] => .bad
    | n :: r => .ok (.int (maxI n r)) S)
  | .sum, [d] => (optR S ((lstOf S d).bind intsOf)).bind fun ns S => .ok (.int ns.sum) S
  | .sorted, [d] => (optR S ((lstOf S d).bind intsOf)).bind fun ns S => .ok (.ref S.length) (S ++ [.lst ((sortI ns).map .int)])
  | .any, [d] => (optR S ((lstOf S d).bind blsOf)).bind fun bs S => .ok (.bl (bs.any id)) S
  | .all, [d] => (optR S ((lstOf S d).bind blsOf)).bind fun bs S => .ok (.bl (bs.all id)) S
  | .isinst T, [d] => (optR S ((tyD S d).bind fun t => isTyD t T)).bind fun b S => .ok (.bl b) S
  | _, _ => .bad
/-! ### methods of built-in types -/
inductive Me where
  | append | extend | pop | popAt | insert
  deriving DecidableEq
def setO (S : Sto) (n : Nat) (o : O) : Sto := S.set n o
def meD (m : Me) (x : D) (ds : List D) (S : Sto) : R D := match x with
  | .ref n => (match S[n]? with
    | some (.lst xs) => (match m, ds with
      | .append, [y] => if xs.length < lim then .ok .non (S.set n (.lst (xs ++ [y]))) else .bad
      | .extend, [.ref m] => (match S[m]? with
        | some (.lst ys) => if xs.length + ys.length ≤ lim then .ok .non (S.set n (.lst (xs ++ ys))) else .bad
        | _ => .bad)
      | .pop, [] => (optR S (xs[xs.length - 1]?)).bind fun y S => .ok y (S.set n (.lst xs.dropLast))
      | .popAt, [.int i] => if -(2 ^ 63) ≤ i ∧ i < 2 ^ 63 then (optR S (ixD xs.length i)).bind fun k S => (optR S (xs[k]?)).bind fun y S => .ok y (S.set n (.lst (xs.eraseIdx k))) else .bad
      | _, _ => .bad)
    | _ => .bad)
  | _ => .bad
def setD (x i v : D) (S : Sto) : R Unit := match x, i with
  | .ref n, .int k => (match S[n]? with
    | some (.lst xs) => (optR S (ixD xs.length k)).bind fun j S => .ok () (S.set n (.lst (xs.set j v)))
    | _ => .bad)
  | _, _ => .bad

/-! ### core syntax -/
/-- a target: a slot, or a tuple of slots -/
inductive Tg where
  | nm (i : Nat) | tp (is : List Nat)
mutual
inductive CE where
  | slot (i : Nat) | non | bl (b : Bool) | int (i : Int) | str (x : Str)
  | bin (o : Operator) (a b : CE) | neg (a : CE) | inv (a : CE)
  | cmp (o : CmpOp) (a b : CE) | chain (o : CmpOp) (a b : CE) (p : CmpOp) (c : CE)
  | and (a b : CE) | or (a b : CE) | not (a : CE) | ife (t : CT) (a b : CE)
  | tup (es : CEs) | lst (es : CEs)
  | call (f : Nat) (es : CEs) | mk (c : Nat) (es : CEs) | bi (b : Bi) (es : CEs) | met (m : Me) (o : CE) (es : CEs) | om (c m : Nat) (o : CE) (es : CEs)
  | idx (a i : CE) | slc (a : CE) (lo hi : CO) | fld (a : CE) (f : Nat)
  | comp (e : CE) (g : Tg) (it : IT) (t : CQ) (own : List (Str × Nat))
  | frz (e : CE)
/-- tests -/
inductive CT where
  | val (e : CE) | and (a b : CT) | or (a b : CT) | not (a : CT)
inductive CQ where
  | none | some (t : CT)
inductive CEs where
  | nil | cons (e : CE) (es : CEs)
inductive CO where
  | none | some (e : CE)
inductive IT where
  | val (e : CE) | rng (a : CE) | rng2 (a b : CE) | enum (e : CE) | zip (a b : CE) | rev (e : CE)
end
mutual
inductive CS where
  | pass | ret (e : CE) | retN | expr (e : CE)
  | set (i : Nat) (e : CE) | tset (is : List Nat) (e : CE) | sub (o i e : CE) | sfld (o : CE) (f : Nat) (e : CE) | aug (i : Nat) (op : Operator) (e : CE)
  | ite (t : CT) (a b : CB) | for_ (g : Tg) (it : IT) (b : CB) | whl (fuel : Nat) (t : CT) (b : CB)
  | brk | cnt
inductive CB where
  | nil | cons (s : CS) (b : CB)
end

/-! ### meaning -/
abbrev Sl := List (Option D)
/-- the tables: a class's fields (their numbers, in the order in which they are first stored), its __init__ (a def's number), its methods -/
structure Tab where
  flds : Nat → List Nat
  init : Nat → Nat
  mth : Nat → Nat → Nat
abbrev Gm := Nat → List D → Sto → R D
/-- what a for walks -/
inductive IV where
  | sq (d : D) | rg (lo : Int) (n : Nat) | en (d : D) | zp (d e : D) | rv (d : D) (n : Nat)
def nxt : IV → Nat → Sto → Option (Option D)
  | .sq d, i, S => (seqOf S d).map fun xs => xs[i]?
  | .rg lo n, i, _ => some (if i < n then some (.int (lo + i)) else none)
  | .en d, i, S => (seqOf S d).map fun xs => (xs[i]?).map fun x => .tup [.int i, x]
  | .zp d e, i, S => (seqOf S d).bind fun xs => (seqOf S e).map fun ys => (xs[i]?).bind fun x => (ys[i]?).map fun y => .tup [x, y]
  | .rv d n, i, S => (seqOf S d).bind fun xs => if xs.length = n then some (if i < n then xs[n - 1 - i]? else none) else none
def fuelOf (S : Sto) : IV → Nat
  | .sq d => ((seqOf S d).map List.length).getD 0 + 1
  | .rg _ n => n + 1
  | .en d => ((seqOf S d).map List.length).getD 0 + 1
  | .zp d _ => ((seqOf S d).map List.length).getD 0 + 1
  | .rv _ n => n + 1
inductive Fl where
  | next (σ : Sl) | ret (d : D) | brk (σ : Sl) | cnt (σ : Sl)
def setsT : List Nat → List D → Sl → Option Sl
  | [], [], σ => some σ
  | i :: is, d :: ds, σ => setsT is ds (σ.set i (some d))
  | _, _, _ => none
def asgT (S : Sto) (g : Tg) (x : D) (σ : Sl) : Option Sl := match g with
  | .nm i => some (σ.set i (some x))
  | .tp is => (match x with
    | .tup xs => setsT is xs σ
    | _ => none)
def wipeD (σ : Sl) : List Nat → Sl
  | [] => σ
  | v :: vs => (wipeD σ vs).set v none
/-- a comprehension's turns -/
def compL (S0 : Sto) (iv : IV) (f : D → Sto → R (Option D)) : Nat → Nat → List D → Sto → R (List D)
  | 0, _, _, _ => .bad
  | fuel + 1, i, acc, S => match nxt iv i S with
    | none => .bad
    | some none => .ok acc S
    | some (some x) => (f x S).bind fun o S' => match o with
      | none => compL S0 iv f fuel (i + 1) acc S'
      | some y => if acc.length < lim then compL S0 iv f fuel (i + 1) (acc ++ [y]) S' else .bad
def forL (iv : IV) (f : D → Sl → Sto → R Fl) : Nat → Nat → Sl → Sto → R Fl
  | 0, _, _, _ => .bad
  | fuel + 1, i, σ, S => match nxt iv i S with
    | none => .bad
    | some none => .ok (.next σ) S
    | some (some x) => (f x σ S).bind fun fl S' => match fl with
      | .next σ' => forL iv f fuel (i + 1) σ' S'
      | .cnt σ' => forL iv f fuel (i + 1) σ' S'
      | .brk σ' => .ok (.next σ') S'
      | .ret d => .ok (.ret d) S'
def whlL (t : Sl → Sto → R Bool) (f : Sl → Sto → R Fl) : Nat → Sl → Sto → R Fl
  | 0, _, _ => .bad
  | fuel + 1, σ, S => (t σ S).bind fun b S1 => if b then (f σ S1).bind fun fl S' => (match fl with
      | .next σ' => whlL t f fuel σ' S'
      | .cnt σ' => whlL t f fuel σ' S'
      | .brk σ' => .ok (.next σ') S'
      | .ret d => .ok (.ret d) S')
    else .ok (.next σ) S1
/-- the place of a field -/
def fldIx (fs : List Nat) (f : Nat) : Option Nat := match fs with
  | [] => none
  | g :: r => if g = f then some 0 else (fldIx r f).map (· + 1)
def fldD (T : Tab) (f : Nat) (x : D) (S : Sto) : R D := optR S ((insOf S x).bind fun p => (fldIx (T.flds p.1) f).bind fun k => p.2[k]?)
def sfldD (T : Tab) (f : Nat) (x v : D) (S : Sto) : R Unit := match x with
  | .ref n => (match S[n]? with
    | some (.ins c vs) => (match fldIx (T.flds c) f with
      | some k => if k < vs.length ∧ vs.length < 900 then .ok () (S.set n (.ins c (vs.set k v))) else if k = vs.length ∧ vs.length < 900 then .ok () (S.set n (.ins c (vs ++ [v]))) else .bad
      | none => .bad)
    | _ => .bad)
  | _ => .bad
def partI (S : Sto) : D → R (Option Int)
  | .int i => .ok (some i) S
  | _ => .bad

section
variable (T : Tab) (Γ : Gm)
mutual
def evE : CE → Sl → Sto → R D
  | .slot i, σ, S => (match σ[i]? with
    | some (some d) => .ok d S
    | _ => .bad)
  | .non, _, S => .ok .non S
  | .bl b, _, S => .ok (.bl b) S
  | .int i, _, S => .ok (.int i) S
  | .str x, _, S => .ok (.str x) S
  | .bin o a b, σ, S => (evE a σ S).bind fun x S => (evE b σ S).bind fun y S => binD o x y S
  | .neg a, σ, S => (evE a σ S).bind fun x S => (match x with
    | .int i => .ok (.int (-i)) S
    | _ => .bad)
  | .inv a, σ, S => (evE a σ S).bind fun x S => (match x with
    | .int i => .ok (.int (Builtin.bitNot i)) S
    | _ => .bad)
  | .cmp o a b, σ, S => (evE a σ S).bind fun x S => (evE b σ S).bind fun y S => cmpD o x y S
  | .chain o a b p c, σ, S => (evE a σ S).bind fun x S => (evE b σ S).bind fun y S => (cmpD o x y S).bind fun r S => (match r with
    | .bl true => (evE c σ S).bind fun z S => cmpD p y z S
    | .bl false => .ok (.bl false) S
    | _ => .bad)
  | .and a b, σ, S => (evE a σ S).bind fun x S => (match x with
    | .bl true => evE b σ S
    | .bl false => .ok (.bl false) S
    | _ => .bad)
  | .or a b, σ, S => (evE a σ S).bind fun x S => (match x with
    | .bl true => .ok (.bl true) S
    | .bl false => evE b σ S
    | _ => .bad)
  | .not a, σ, S => (evE a σ S).bind fun x S => (match x with
    | .bl c => .ok (.bl (!c)) S
    | _ => .bad)
  | .ife t a b, σ, S => (evT t σ S).bind fun c S => if c then evE a σ S else evE b σ S
  | .tup es, σ, S => (evEs es σ S).bind fun ds S => if ds.length ≤ lim then .ok (.tup ds) S else .bad
  | .lst es, σ, S => (evEs es σ S).bind fun ds S => if ds.length ≤ lim then .ok (.ref S.length) (S ++ [.lst ds]) else .bad
  | .call f es, σ, S => (evEs es σ S).bind fun ds S => Γ f ds S
  | .mk c es, σ, S => (evEs es σ S).bind fun ds S => (Γ (T.init c) (.ref S.length :: ds) (S ++ [.ins c []])).bind fun r S' => (match r with
      | .non => .ok (.ref S.length) S'
      | _ => .bad)
  | .bi b es, σ, S => (evEs es σ S).bind fun ds S => biD b ds S
  | .met m o es, σ, S => (evE o σ S).bind fun x S => (match lstOf S x with
    | some _ => (evEs es σ S).bind fun ds S => meD m x ds S
    | none => .bad)
  | .om c m o es, σ, S => (evE o σ S).bind fun x S => (match insOf S x with
    | some (d, _) => if d = c then (evEs es σ S).bind fun ds S => Γ (T.mth c m) (x :: ds) S else .bad
    | none => .bad)
  | .idx a i, σ, S => (evE a σ S).bind fun x S => (evE i σ S).bind fun y S => idxD x y S
  | .slc a lo hi, σ, S => (evE a σ S).bind fun x S => (evO lo σ S).bind fun l S => (evO hi σ S).bind fun h S => slcD x l h S
  | .fld a f, σ, S => (evE a σ S).bind fun x S => fldD T f x S
  | .comp e g it t own, σ, S => (evI it σ S).bind fun iv S1 =>
      (compL S1 iv (fun x S => match asgT S g x (wipeD σ (own.map (·.2))) with
        | none => .bad
        | some σ1 => (evQ t σ1 S).bind fun b S => if b then (evE e σ1 S).bind fun y S => .ok (some y) S else .ok none S) (fuelOf S1 iv) 0 [] S1).bind fun ds S' =>
      .ok (.ref S'.length) (S' ++ [.lst ds])
  | .frz e, σ, S => (evE e σ S).bind fun d S' => shut S d S'
def evT : CT → Sl → Sto → R Bool
  | .and a b, σ, S => (evT a σ S).bind fun c S => if c then evT b σ S else .ok false S
  | .or a b, σ, S => (evT a σ S).bind fun c S => if c then .ok true S else evT b σ S
  | .not a, σ, S => (evT a σ S).bind fun c S => .ok (!c) S
  | .val e, σ, S => (evE e σ S).bind fun d S => optR S (truD S d)
def evQ : CQ → Sl → Sto → R Bool
  | .none, _, S => .ok true S
  | .some t, σ, S => evT t σ S
def evEs : CEs → Sl → Sto → R (List D)
  | .nil, _, S => .ok [] S
  | .cons e es, σ, S => (evE e σ S).bind fun d S => (evEs es σ S).bind fun ds S => .ok (d :: ds) S
def evO : CO → Sl → Sto → R (Option Int)
  | .none, _, S => .ok none S
  | .some e, σ, S => (evE e σ S).bind fun d S => partI S d
def evI : IT → Sl → Sto → R IV
  | .val e, σ, S => (evE e σ S).bind fun d S => (match seqOf S d with
    | some _ => .ok (.sq d) S
    | none => .bad)
  | .rng a, σ, S => (evE a σ S).bind fun d S => (match d with
    | .int j => if -(2 ^ 62) ≤ j ∧ j < 2 ^ 62 then .ok (.rg 0 j.toNat) S else .bad
    | _ => .bad)
  | .rng2 a b, σ, S => (evE a σ S).bind fun d S => (evE b σ S).bind fun e S => (match d, e with
    | .int i, .int j => if -(2 ^ 62) ≤ i ∧ i < 2 ^ 62 ∧ -(2 ^ 62) ≤ j ∧ j < 2 ^ 62 then .ok (.rg i (j - i).toNat) S else .bad
    | _, _ => .bad)
  | .enum e, σ, S => (evE e σ S).bind fun d S => (match seqOf S d with
    | some _ => if isTup d = false then .ok (.en d) S else .bad
    | none => .bad)
  | .zip a b, σ, S => (evE a σ S).bind fun d S => (evE b σ S).bind fun e S => (match seqOf S d, seqOf S e with
    | some _, some _ => if isTup d = isTup e then .ok (.zp d e) S else .bad
    | _, _ => .bad)
  | .rev e, σ, S => (evE e σ S).bind fun d S => (match seqOf S d with
    | some xs => .ok (.rv d xs.length) S
    | none => .bad)
end
mutual
def evS : CS → Sl → Sto → R Fl
  | .pass, σ, S => .ok (.next σ) S
  | .ret e, σ, S => (evE T Γ e σ S).bind fun d S => .ok (.ret d) S
  | .retN, _, S => .ok (.ret .non) S
  | .expr e, σ, S => (evE T Γ e σ S).bind fun _ S => .ok (.next σ) S
  | .set i e, σ, S => (evE T Γ e σ S).bind fun d S => .ok (.next (σ.set i (some d))) S
  | .tset is e, σ, S => (evE T Γ e σ S).bind fun d S => (match asgT S (.tp is) d σ with
    | some σ' => .ok (.next σ') S
    | none => .bad)
  | .sub o i e, σ, S => (evE T Γ e σ S).bind fun v S => (evE T Γ o σ S).bind fun x S => (evE T Γ i σ S).bind fun y S => (setD x y v S).bind fun _ S => .ok (.next σ) S
  | .sfld o f e, σ, S => (evE T Γ e σ S).bind fun v S => (evE T Γ o σ S).bind fun x S => (sfldD T f x v S).bind fun _ S => .ok (.next σ) S
  | .aug i op e, σ, S => (match σ[i]? with
    | some (some x) => (evE T Γ e σ S).bind fun y S => (augD op x y S).bind fun z S => .ok (.next (σ.set i (some z))) S
    | _ => .bad)
  | .ite t a b, σ, S => (evT T Γ t σ S).bind fun c S => if c then evB a σ S else evB b σ S
  | .for_ g it b, σ, S => (evI T Γ it σ S).bind fun iv S1 => forL iv (fun x σ S => match asgT S g x σ with
      | none => .bad
      | some σ1 => evB b σ1 S) (fuelOf S1 iv) 0 σ S1
  | .whl fuel t b, σ, S => whlL (evT T Γ t) (evB b) fuel σ S
  | .brk, σ, S => .ok (.brk σ) S
  | .cnt, σ, S => .ok (.cnt σ) S
def evB : CB → Sl → Sto → R Fl
  | .nil, σ, S => .ok (.next σ) S
  | .cons s b, σ, S => (evS s σ S).bind fun fl S => (match fl with
    | .next σ' => evB b σ' S
    | .ret d => .ok (.ret d) S
    | .brk σ' => .ok (.brk σ') S
    | .cnt σ' => .ok (.cnt σ') S)
end
end
/-- a def: its slots, whether what it makes stays in the store, its body -/
structure CF where
  n : Nat
  ps : Nat
  keep : Bool
  body : CB
def runF (T : Tab) (Γ : Gm) (f : CF) (ds : List D) (S : Sto) : R D :=
  if ds.length = f.ps then
    match evB T Γ f.body (ds.map some ++ List.replicate (f.n - ds.length) none) S with
    | .ok (.next _) S' => if f.keep then .ok .non S' else shutK S .non S'
    | .ok (.ret d) S' => if f.keep then .ok d S' else shutK S d S'
    | .ok _ _ => .bad
    | .exc e S' => if f.keep then .exc e S' else shutX S e S'
    | .bad => .bad
  else .bad
/-- the defs by number, to a depth of calls -/
def sem (T : Tab) (P : Nat → Option CF) : Nat → Gm
  | 0 => fun _ _ _ => .bad
  | k + 1 => fun f ds S => match P f with
    | some c => runF T (sem T P k) c ds S
    | none => .bad
end Py
/-! How data and the store stand in the abstract heap. -/
namespace Py
open PySem PySem.Spec PyProof.Rows L2

structure Cst where
  T : Tab
  /-- names of fields, defs, classes, methods by number -/
  nm : Nat → Str
  fnm : Nat → Str
  cnm : Nat → Str
  mnm : Nat → Str
  /-- the numbers in use: defs of the module, classes that are made, methods that are called -/
  isg : Nat → Bool
  isc : Nat → Bool
  ism : Nat → Nat → Bool
structure Cfg extends Cst where
  K : PySem.W.Frag
  CA : Nat → Addr
def Cfg.fs (c : Cfg) (k : Nat) (vs : List V) : List (Str × V) := ((c.T.flds k).map c.nm).zip vs

section
variable (c : Cfg) (G : Hp) (ι : List Addr)
mutual
def Rep : D → V → Prop
  | .non, v => v = .non
  | .bl b, v => v = .bl b
  | .int i, v => v = .int i
  | .str x, v => v = .str x
  | .tup ds, v => ∃ a vs, v = .ref a ∧ SqT c.K G a vs ∧ Reps ds vs
  | .lst ds, v => ∃ a vs, v = .ref a ∧ SqL c.K G a vs ∧ Reps ds vs
  | .obj k ds, v => ∃ a dx vs, v = .ref a ∧ G a = some (.ins (c.CA k) dx (c.fs k vs)) ∧ Reps ds vs ∧ vs.length ≤ (c.T.flds k).length
  | .ref n, v => ∃ a, ι[n]? = some a ∧ v = .ref a
def Reps : List D → List V → Prop
  | [], vs => vs = []
  | d :: ds, vs => ∃ v r, vs = v :: r ∧ Rep d v ∧ Reps ds r
end
end
def RepO (c : Cfg) (G : Hp) (ι : List Addr) (H : Hp) (a : Addr) : O → Prop
  | .lst ds => ∃ vs, H a = some (.lst vs) ∧ Reps c G ι ds vs
  | .ins k ds => ∃ dx vs, H a = some (.ins (c.CA k) dx (c.fs k vs)) ∧ Reps c G ι ds vs ∧ vs.length ≤ (c.T.flds k).length
structure Sim (c : Cfg) (G : Hp) (ι : List Addr) (S : Sto) (H : Hp) : Prop where
  sub : ∀ a o, G a = some o → H a = some o
  len : ι.length = S.length
  nd : ι.Nodup
  off : ∀ a ∈ ι, G a = none
  ent : ∀ (n : Nat) (o : O) (a : Addr), S[n]? = some o → ι[n]? = some a → RepO c G ι H a o
structure Ext (G : Hp) (ι : List Addr) (H : Hp) (G' : Hp) (ι' : List Addr) (H' : Hp) : Prop where
  g : ∀ a o, G a = some o → G' a = some o
  i : ∃ k, ι' = ι ++ k
  fr : ∀ a o, H a = some o → a ∉ ι → H' a = some o
  gn : ∀ a, H a ≠ none → G' a = G a
  inn : ∀ a ∈ ι', a ∈ ι ∨ H a = none
  al : ∀ a, H a ≠ none → H' a ≠ none
def RepSl (c : Cfg) (G : Hp) (ι : List Addr) (σ : L2.St) (σd : Sl) : Prop :=
  σ.length = σd.length ∧ ∀ (i : Nat) (d : D), σd[i]? = some (some d) → ∃ v, σ[i]? = some (some v) ∧ Rep c G ι d v

section
variable {c : Cfg} {G G' G1 G2 : Hp} {ι ι' ι1 ι2 : List Addr} {H H' H1 H2 : Hp} {S S' S1 : Sto}
theorem Ext.refl : Ext G ι H G ι H := ⟨fun _ _ h => h, ⟨[], by simp⟩, fun _ _ h _ => h, fun _ _ => rfl, fun _ h => .inl h, fun _ h => h⟩
theorem Ext.trans (a : Ext G ι H G1 ι1 H1) (b : Ext G1 ι1 H1 G2 ι2 H2) : Ext G ι H G2 ι2 H2 := by
  obtain ⟨k1, e1⟩ := a.i
  obtain ⟨k2, e2⟩ := b.i
  refine ⟨fun x o h => b.g x o (a.g x o h), ⟨k1 ++ k2, by rw [e2, e1, List.append_assoc]⟩, fun x o h n => b.fr x o (a.fr x o h n) fun m => ?_, fun x h => (b.gn x (a.al x h)).trans (a.gn x h), fun x m => ?_, fun x h => b.al x (a.al x h)⟩
  · rcases a.inn x m with m | e
    · exact n m
    · rw [h] at e; cases e
  · rcases b.inn x m with m | e
    · exact a.inn x m
    · refine .inr ?_
      cases q : H x with
      | none => rfl
      | some o => exact absurd e (a.al x (by rw [q]; simp))
theorem sqL_sub {K : PySem.W.Frag} {a : Addr} {xs : List V} (h : SqL K G a xs) (g : ∀ a o, G a = some o → G' a = some o) : SqL K G' a xs := Same.seq (e := g) h
theorem sqT_sub {K : PySem.W.Frag} {a : Addr} {xs : List V} (h : SqT K G a xs) (g : ∀ a o, G a = some o → G' a = some o) : SqT K G' a xs := by
  rcases h with (h | ⟨o, h⟩) | h
  · exact .inl (.inl (g _ _ h))
  · exact .inl (.inr ⟨o, g _ _ h⟩)
  · exact .inr h
mutual
theorem Rep.mono (g : ∀ a o, G a = some o → G' a = some o) (hi : ∃ k, ι' = ι ++ k) : ∀ (d : D) (v : V), Rep c G ι d v → Rep c G' ι' d v
  | .non, v, h => by rw [Rep] at h ⊢; exact h
  | .bl _, v, h => by rw [Rep] at h ⊢; exact h
  | .int _, v, h => by rw [Rep] at h ⊢; exact h
  | .str _, v, h => by rw [Rep] at h ⊢; exact h
  | .tup ds, v, h => by
    rw [Rep] at h ⊢
    obtain ⟨a, vs, e, q, r⟩ := h
    exact ⟨a, vs, e, sqT_sub q g, Reps.mono g hi ds vs r⟩
  | .lst ds, v, h => by
    rw [Rep] at h ⊢
    obtain ⟨a, vs, e, q, r⟩ := h
    exact ⟨a, vs, e, sqL_sub q g, Reps.mono g hi ds vs r⟩
  | .obj k ds, v, h => by
    rw [Rep] at h ⊢
    obtain ⟨a, dx, vs, e, q, r, l⟩ := h
    exact ⟨a, dx, vs, e, g _ _ q, Reps.mono g hi ds vs r, l⟩
  | .ref n, v, h => by
    rw [Rep] at h ⊢
    obtain ⟨a, e, r⟩ := h
    obtain ⟨k, rfl⟩ := hi
    refine ⟨a, ?_, r⟩
    have hl : n < ι.length := (List.getElem?_eq_some_iff.mp e).1
    rw [List.getElem?_append_left hl]; exact e
theorem Reps.mono (g : ∀ a o, G a = some o → G' a = some o) (hi : ∃ k, ι' = ι ++ k) : ∀ (ds : List D) (vs : List V), Reps c G ι ds vs → Reps c G' ι' ds vs
  | [], vs, h => by rw [Reps] at h ⊢; exact h
  | d :: ds, vs, h => by
    rw [Reps] at h ⊢
    obtain ⟨v, r, e, q, t⟩ := h
    exact ⟨v, r, e, Rep.mono g hi d v q, Reps.mono g hi ds r t⟩
end
theorem Rep.ext {d : D} {v : V} (r : Rep c G ι d v) (e : Ext G ι H G' ι' H') : Rep c G' ι' d v := Rep.mono e.g e.i d v r
theorem Reps.ext {d : List D} {v : List V} (r : Reps c G ι d v) (e : Ext G ι H G' ι' H') : Reps c G' ι' d v := Reps.mono e.g e.i d v r
theorem RepSl.ext {σ : L2.St} {σd : Sl} (r : RepSl c G ι σ σd) (e : Ext G ι H G' ι' H') : RepSl c G' ι' σ σd := ⟨r.1, fun i d h => let ⟨v, a, b⟩ := r.2 i d h; ⟨v, a, b.ext e⟩⟩
theorem RepO.ext' {a : Addr} {o : O} (r : RepO c G ι H a o) (g : ∀ a o, G a = some o → G' a = some o) (hi : ∃ k, ι' = ι ++ k) (h : H' a = H a) : RepO c G' ι' H' a o := by
  cases o with
  | lst ds => obtain ⟨vs, e, q⟩ := r; exact ⟨vs, h.trans e, Reps.mono g hi _ _ q⟩
  | ins k ds => obtain ⟨dx, vs, e, q, l⟩ := r; exact ⟨dx, vs, h.trans e, Reps.mono g hi _ _ q, l⟩
theorem RepO.some {a : Addr} {o : O} (r : RepO c G ι H a o) : H a ≠ none := by
  cases o with
  | lst ds => obtain ⟨vs, e, q⟩ := r; rw [e]; simp
  | ins k ds => obtain ⟨dx, vs, e, q, l⟩ := r; rw [e]; simp
theorem Sim.at (s : Sim c G ι S H) {n : Nat} {o : O} (h : S[n]? = some o) : ∃ a, ι[n]? = some a ∧ RepO c G ι H a o := by
  have hl : n < ι.length := by rw [s.len]; exact (List.getElem?_eq_some_iff.mp h).1
  exact ⟨ι[n], List.getElem?_eq_getElem hl, s.ent n o _ h (List.getElem?_eq_getElem hl)⟩
theorem Sim.there (s : Sim c G ι S H) {a : Addr} (h : a ∈ ι) : H a ≠ none := by
  obtain ⟨n, hn, e⟩ := List.getElem_of_mem h
  have hS : n < S.length := by rw [← s.len]; exact hn
  exact (s.ent n S[n] a (List.getElem?_eq_getElem hS) (by rw [List.getElem?_eq_getElem hn, e])).some
theorem Sim.fresh (s : Sim c G ι S H) {p : Addr} (h : H p = none) : G p = none ∧ p ∉ ι := by
  refine ⟨?_, fun m => s.there m h⟩
  cases q : G p with
  | none => rfl
  | some o => rw [s.sub p o q] at h; cases h
/-- a thing by value is laid at p -/
theorem Sim.val (s : Sim c G ι S H) {p : Addr} {o : HO} (h : H p = none) : Ext G ι H (upd G p o) ι (upd H p o) ∧ Sim c (upd G p o) ι S (upd H p o) := by
  obtain ⟨hg, hi⟩ := s.fresh h
  have ne : ∀ {a : Addr}, H a ≠ none → a ≠ p := fun q e => q (e ▸ h)
  have gg : ∀ a o', G a = some o' → upd G p o a = some o' := fun a o' q => by rw [upd_ne (ne_of_none q hg)]; exact q
  refine ⟨⟨gg, ⟨[], by simp⟩, fun a o' q _ => by rw [upd_ne (ne (by rw [q]; simp))]; exact q, fun a q => by rw [upd_ne (ne q)], fun a m => .inl m, fun a q => by rw [upd_ne (ne q)]; exact q⟩, ⟨fun a o' q => ?_, s.len, s.nd, fun a m => ?_, fun n o' a h1 h2 => ?_⟩⟩
  · by_cases e : a = p
    · subst e; rw [upd_same] at q ⊢; exact q
    · rw [upd_ne e] at q ⊢; exact s.sub a o' q
  · rw [upd_ne (show a ≠ p from fun e => hi (e ▸ m))]; exact s.off a m
  · have m : a ∈ ι := List.mem_of_getElem? h2
    exact (s.ent n o' a h1 h2).ext' gg ⟨[], by simp⟩ (upd_ne fun e => hi (e ▸ m))
/-- a new entry -/
theorem Sim.push (s : Sim c G ι S H) {p : Addr} {u : HO} {o : O} (h : H p = none) (ho : ∀ H', H' p = some u → RepO c G ι H' p o) : Ext G ι H G (ι ++ [p]) (upd H p u) ∧ Sim c G (ι ++ [p]) (S ++ [o]) (upd H p u) := by
  obtain ⟨hg, hi⟩ := s.fresh h
  have ne : ∀ {a : Addr}, H a ≠ none → a ≠ p := fun q e => q (e ▸ h)
  refine ⟨⟨fun _ _ q => q, ⟨[p], rfl⟩, fun a o' q _ => by rw [upd_ne (ne (by rw [q]; simp))]; exact q, fun a q => rfl, fun a m => ?_, fun a q => by rw [upd_ne (ne q)]; exact q⟩, ⟨fun a o' q => ?_, by simp [s.len], ?_, fun a m => ?_, fun n o' a h1 h2 => ?_⟩⟩
  · rcases List.mem_append.mp m with m | m
    · exact .inl m
    · rw [List.mem_singleton.mp m]; exact .inr h
  · rw [upd_ne (ne_of_none q hg)]; exact s.sub a o' q
  · rw [List.nodup_append]
    exact ⟨s.nd, by simp, fun a m b hb => by rw [List.mem_singleton.mp hb]; exact fun e => hi (e ▸ m)⟩
  · rcases List.mem_append.mp m with m | m
    · exact s.off a m
    · rw [List.mem_singleton.mp m]; exact hg
  · by_cases hn : n < S.length
    · rw [List.getElem?_append_left hn] at h1
      rw [List.getElem?_append_left (by rw [s.len]; exact hn)] at h2
      have m : a ∈ ι := List.mem_of_getElem? h2
      exact (s.ent n o' a h1 h2).ext' (fun _ _ q => q) ⟨[p], rfl⟩ (upd_ne fun e => hi (e ▸ m))
    · have hn1 : n = S.length := by
        have := (List.getElem?_eq_some_iff.mp h1).1
        simp at this; omega
      subst hn1
      rw [List.getElem?_append_right (Nat.le_refl _), Nat.sub_self] at h1
      rw [← s.len, List.getElem?_append_right (Nat.le_refl _), Nat.sub_self] at h2
      cases h1
      cases h2
      exact (ho _ upd_same).ext' (fun _ _ q => q) ⟨[p], rfl⟩ rfl
/-- an entry is changed -/
theorem Sim.put (s : Sim c G ι S H) {n : Nat} {p : Addr} {u : HO} {o : O} (hn : ι[n]? = some p) (ho : ∀ H', H' p = some u → RepO c G ι H' p o) : Ext G ι H G ι (upd H p u) ∧ Sim c G ι (S.set n o) (upd H p u) := by
  have hm : p ∈ ι := List.mem_of_getElem? hn
  refine ⟨⟨fun _ _ q => q, ⟨[], by simp⟩, fun a o' q m => by rw [upd_ne (show a ≠ p from fun e => m (e ▸ hm))]; exact q, fun a q => rfl, fun a m => .inl m, fun a q => ?_⟩, ⟨fun a o' q => ?_, by simp [s.len], s.nd, s.off, fun m o' a h1 h2 => ?_⟩⟩
  · by_cases e : a = p
    · subst e; rw [upd_same]; simp
    · rw [upd_ne e]; exact q
  · rw [upd_ne (fun e => by subst e; rw [s.off a hm] at q; cases q)]; exact s.sub a o' q
  · by_cases e : m = n
    · subst e
      rw [hn] at h2; cases h2
      have hl : m < S.length := by
        have := (List.getElem?_eq_some_iff.mp h1).1
        simpa using this
      rw [List.getElem?_set_self hl] at h1; cases h1
      exact ho _ upd_same
    · rw [List.getElem?_set_ne (Ne.symm e)] at h1
      have ne : a ≠ p := fun q => by
        subst q
        have l1 := (List.getElem?_eq_some_iff.mp h2)
        have l2 := (List.getElem?_eq_some_iff.mp hn)
        obtain ⟨l1, e1⟩ := l1
        obtain ⟨l2, e2⟩ := l2
        exact e ((List.getElem_inj s.nd).mp (e1.trans e2.symm))
      exact (s.ent m o' a h1 h2).ext' (fun _ _ q => q) ⟨[], by simp⟩ (upd_ne ne)
/-! lists of data -/
theorem Reps.length : ∀ {ds : List D} {vs : List V}, Reps c G ι ds vs → vs.length = ds.length
  | [], vs, h => by rw [Reps] at h; subst h; rfl
  | d :: ds, vs, h => by
    rw [Reps] at h
    obtain ⟨v, r, rfl, _, q⟩ := h
    simp [Reps.length q]
theorem Reps.get : ∀ {ds : List D} {vs : List V} {i : Nat} {d : D}, Reps c G ι ds vs → ds[i]? = some d → ∃ v, vs[i]? = some v ∧ Rep c G ι d v
  | [], _, _, _, _, e => by simp at e
  | d :: ds, vs, i, x, h, e => by
    rw [Reps] at h
    obtain ⟨v, r, rfl, a, q⟩ := h
    cases i with
    | zero => simp at e; subst e; exact ⟨v, rfl, a⟩
    | succ i => exact Reps.get (i := i) q (by simpa using e)
theorem Reps.none_of {ds : List D} {vs : List V} {i : Nat} (h : Reps c G ι ds vs) (e : ds[i]? = none) : vs[i]? = none := by
  rw [List.getElem?_eq_none_iff] at e ⊢
  rw [h.length]; exact e
theorem Reps.append : ∀ {ds es : List D} {vs ws : List V}, Reps c G ι ds vs → Reps c G ι es ws → Reps c G ι (ds ++ es) (vs ++ ws)
  | [], es, vs, ws, h, q => by rw [Reps] at h; subst h; exact q
  | d :: ds, es, vs, ws, h, q => by
    rw [Reps] at h
    obtain ⟨v, r, rfl, a, t⟩ := h
    show Reps c G ι (d :: (ds ++ es)) _
    rw [Reps]
    exact ⟨v, r ++ ws, rfl, a, Reps.append t q⟩
theorem Reps.one {d : D} {v : V} (h : Rep c G ι d v) : Reps c G ι [d] [v] := by
  rw [Reps]; exact ⟨v, [], rfl, h, by rw [Reps]⟩
theorem Reps.cons {d : D} {v : V} {ds : List D} {vs : List V} (h : Rep c G ι d v) (t : Reps c G ι ds vs) : Reps c G ι (d :: ds) (v :: vs) := by
  rw [Reps]; exact ⟨v, vs, rfl, h, t⟩
theorem Reps.nil : Reps c G ι [] [] := by rw [Reps]
theorem Reps.set : ∀ {ds : List D} {vs : List V} {d : D} {v : V} (i : Nat), Reps c G ι ds vs → Rep c G ι d v → Reps c G ι (ds.set i d) (vs.set i v)
  | [], vs, d, v, i, h, q => by rw [Reps] at h; subst h; exact Reps.nil
  | e :: ds, vs, d, v, i, h, q => by
    rw [Reps] at h
    obtain ⟨w, r, rfl, a, t⟩ := h
    cases i with
    | zero => exact Reps.cons q t
    | succ i => exact Reps.cons a (Reps.set i t q)
theorem Reps.drop : ∀ {ds : List D} {vs : List V} (i : Nat), Reps c G ι ds vs → Reps c G ι (ds.drop i) (vs.drop i)
  | _, _, 0, h => h
  | [], vs, i + 1, h => by rw [Reps] at h; subst h; exact Reps.nil
  | d :: ds, vs, i + 1, h => by
    rw [Reps] at h
    obtain ⟨w, r, rfl, a, t⟩ := h
    exact Reps.drop i t
theorem Reps.take : ∀ {ds : List D} {vs : List V} (i : Nat), Reps c G ι ds vs → Reps c G ι (ds.take i) (vs.take i)
  | _, _, 0, h => Reps.nil
  | [], vs, i + 1, h => by rw [Reps] at h; subst h; exact Reps.nil
  | d :: ds, vs, i + 1, h => by
    rw [Reps] at h
    obtain ⟨w, r, rfl, a, t⟩ := h
    exact Reps.cons a (Reps.take i t)
theorem Reps.eraseIdx : ∀ {ds : List D} {vs : List V} (i : Nat), Reps c G ι ds vs → Reps c G ι (ds.eraseIdx i) (vs.eraseIdx i)
  | [], vs, i, h => by rw [Reps] at h; subst h; exact Reps.nil
  | d :: ds, vs, i, h => by
    rw [Reps] at h
    obtain ⟨w, r, rfl, a, t⟩ := h
    cases i with
    | zero => exact t
    | succ i => exact Reps.cons a (Reps.eraseIdx i t)
theorem Reps.dropLast {ds : List D} {vs : List V} (h : Reps c G ι ds vs) : Reps c G ι ds.dropLast vs.dropLast := by
  rw [List.dropLast_eq_take, List.dropLast_eq_take, h.length]
  exact h.take _
theorem Rep.int_inv {i : Int} {v : V} (h : Rep c G ι (.int i) v) : v = .int i := by rw [Rep] at h; exact h
theorem Rep.bl_inv {i : Bool} {v : V} (h : Rep c G ι (.bl i) v) : v = .bl i := by rw [Rep] at h; exact h
theorem Rep.str_inv {i : Str} {v : V} (h : Rep c G ι (.str i) v) : v = .str i := by rw [Rep] at h; exact h
theorem Rep.non_inv {v : V} (h : Rep c G ι .non v) : v = .non := by rw [Rep] at h; exact h
theorem Reps.ints : ∀ {ns : List Int} {vs : List V}, Reps c G ι (ns.map .int) vs → vs = ns.map .int
  | [], vs, h => by rw [List.map_nil, Reps] at h; exact h
  | n :: ns, vs, h => by
    rw [List.map_cons, Reps] at h
    obtain ⟨w, r, rfl, a, t⟩ := h
    rw [a.int_inv, Reps.ints t]; rfl
theorem Reps.bls : ∀ {ns : List Bool} {vs : List V}, Reps c G ι (ns.map .bl) vs → vs = ns.map .bl
  | [], vs, h => by rw [List.map_nil, Reps] at h; exact h
  | n :: ns, vs, h => by
    rw [List.map_cons, Reps] at h
    obtain ⟨w, r, rfl, a, t⟩ := h
    rw [a.bl_inv, Reps.bls t]; rfl
theorem Reps.of_ints : ∀ (ns : List Int), Reps c G ι (ns.map .int) (ns.map .int)
  | [] => Reps.nil
  | n :: ns => Reps.cons (by rw [Rep]) (Reps.of_ints ns)
theorem intsOf_eq : ∀ {ds : List D} {ns : List Int}, intsOf ds = some ns → ds = ns.map .int
  | [], ns, h => by simp [intsOf] at h; subst h; rfl
  | d :: ds, ns, h => by
    cases d <;> simp [intsOf] at h
    obtain ⟨r, h1, rfl⟩ := h
    rw [intsOf_eq h1]; rfl
theorem blsOf_eq : ∀ {ds : List D} {ns : List Bool}, blsOf ds = some ns → ds = ns.map .bl
  | [], ns, h => by simp [blsOf] at h; subst h; rfl
  | d :: ds, ns, h => by
    cases d <;> simp [blsOf] at h
    obtain ⟨r, h1, rfl⟩ := h
    rw [blsOf_eq h1]; rfl
/-- a list or tuple that is read -/
theorem Sim.seq (s : Sim c G ι S H) {d : D} {v : V} {xs : List D} (r : Rep c G ι d v) (h : seqOf S d = some xs) : ∃ a vs, v = .ref a ∧ (SqL c.K H a vs ∨ SqT c.K H a vs) ∧ Reps c G ι xs vs := by
  cases d with
  | tup ds =>
    rw [Rep] at r
    obtain ⟨a, vs, e, q, t⟩ := r
    cases h
    exact ⟨a, vs, e, .inr (sqT_sub q s.sub), t⟩
  | lst ds =>
    rw [Rep] at r
    obtain ⟨a, vs, e, q, t⟩ := r
    cases h
    exact ⟨a, vs, e, .inl (sqL_sub q s.sub), t⟩
  | ref n =>
    rw [Rep] at r
    obtain ⟨a, e, rfl⟩ := r
    simp only [seqOf] at h
    split at h
    · rename_i ys hS
      cases h
      obtain ⟨vs, h1, h2⟩ := s.ent n _ a hS e
      exact ⟨a, vs, rfl, .inl (SqL.of h1), h2⟩
    · cases h
  | _ => simp [seqOf] at h
theorem Sim.list (s : Sim c G ι S H) {d : D} {v : V} {xs : List D} (r : Rep c G ι d v) (h : lstOf S d = some xs) : ∃ a vs, v = .ref a ∧ SqL c.K H a vs ∧ Reps c G ι xs vs := by
  cases d with
  | lst ds =>
    rw [Rep] at r
    obtain ⟨a, vs, e, q, t⟩ := r
    cases h
    exact ⟨a, vs, e, sqL_sub q s.sub, t⟩
  | ref n =>
    rw [Rep] at r
    obtain ⟨a, e, rfl⟩ := r
    simp only [lstOf] at h
    split at h
    · rename_i ys hS
      cases h
      obtain ⟨vs, h1, h2⟩ := s.ent n _ a hS e
      exact ⟨a, vs, rfl, SqL.of h1, h2⟩
    · cases h
  | _ => simp [lstOf] at h
theorem Sim.ins (s : Sim c G ι S H) {d : D} {v : V} {k : Nat} {xs : List D} (r : Rep c G ι d v) (h : insOf S d = some (k, xs)) : ∃ a dx vs, v = .ref a ∧ H a = some (.ins (c.CA k) dx (c.fs k vs)) ∧ Reps c G ι xs vs ∧ vs.length ≤ (c.T.flds k).length := by
  cases d with
  | obj j ds =>
    rw [Rep] at r
    obtain ⟨a, dx, vs, e, q, t, l⟩ := r
    cases h
    exact ⟨a, dx, vs, e, s.sub _ _ q, t, l⟩
  | ref n =>
    rw [Rep] at r
    obtain ⟨a, e, rfl⟩ := r
    simp only [insOf] at h
    split at h
    · rename_i j ys hS
      cases h
      obtain ⟨dx, vs, h1, h2, l⟩ := s.ent n _ a hS e
      exact ⟨a, dx, vs, rfl, h1, h2, l⟩
    · cases h
  | _ => simp [insOf] at h
end
end Py
/-! Operators, subscripts, built-ins over data against the readings of the hand layer. -/
namespace Py
open PySem PySem.Spec PyProof.Rows L2

def Post (c : Cfg) (G : Hp) (ι : List Addr) (H : Hp) (d : D) (S' : Sto) (Q : VK) : Prop := ∀ v G' ι' H', Ext G ι H G' ι' H' → Sim c G' ι' S' H' → Rep c G' ι' d v → Q v H'
theorem Post.mono {c : Cfg} {G : Hp} {ι : List Addr} {H : Hp} {d : D} {S' : Sto} {Q : VK} {G1 : Hp} {ι1 : List Addr} {H1 : Hp} (p : Post c G ι H d S' Q) (e : Ext G ι H G1 ι1 H1) : Post c G1 ι1 H1 d S' Q :=
  fun v G' ι' H' x s r => p v G' ι' H' (e.trans x) s r
theorem Post.here {c : Cfg} {G : Hp} {ι : List Addr} {H : Hp} {d : D} {S : Sto} {Q : VK} {v : V} (p : Post c G ι H d S Q) (s : Sim c G ι S H) (r : Rep c G ι d v) : Q v H := p v G ι H .refl s r
/-- a new tuple -/
theorem Post.tup {c : Cfg} {G : Hp} {ι : List Addr} {H : Hp} {ds : List D} {S : Sto} {Q : VK} {vs : List V} {p : Addr} (q : Post c G ι H (.tup ds) S Q) (s : Sim c G ι S H) (r : Reps c G ι ds vs) (h : H p = none) : Q (.ref p) (upd H p (.tup vs)) := by
  obtain ⟨e, s'⟩ := s.val (o := .tup vs) h
  refine q _ _ _ _ e s' ?_
  rw [Rep]
  exact ⟨p, vs, rfl, SqT.of upd_same, r.ext e⟩
/-- a new list as an entry -/
theorem Post.lst {c : Cfg} {G : Hp} {ι : List Addr} {H : Hp} {ds : List D} {S : Sto} {Q : VK} {vs : List V} {p : Addr} (q : Post c G ι H (.ref S.length) (S ++ [.lst ds]) Q) (s : Sim c G ι S H) (r : Reps c G ι ds vs) (h : H p = none) : Q (.ref p) (upd H p (.lst vs)) := by
  obtain ⟨e, s'⟩ := s.push (p := p) (u := .lst vs) (o := .lst ds) h fun H' e => ⟨vs, e, r⟩
  refine q _ _ _ _ e s' ?_
  rw [Rep]
  refine ⟨p, ?_, rfl⟩
  rw [← s.len, List.getElem?_append_right (Nat.le_refl _), Nat.sub_self]; rfl
abbrev F2 := D → D → Sto → R D
def rD2 (c : Cfg) (f : F2) : R2 := fun v w H Q => ∃ G ι S x y d S', Sim c G ι S H ∧ Rep c G ι x v ∧ Rep c G ι y w ∧ f x y S = .ok d S' ∧ Post c G ι H d S' Q
def rD1 (c : Cfg) (f : D → Sto → R D) : V → Hp → VK → Prop := fun v H Q => ∃ G ι S x d S', Sim c G ι S H ∧ Rep c G ι x v ∧ f x S = .ok d S' ∧ Post c G ι H d S' Q
def rDL (c : Cfg) (f : List D → Sto → R D) : List V → Hp → VK → Prop := fun vs H Q => ∃ G ι S ds d S', Sim c G ι S H ∧ Reps c G ι ds vs ∧ f ds S = .ok d S' ∧ Post c G ι H d S' Q
theorem optR_ok {α : Type} {S S' : Sto} {o : Option α} {a : α} : optR S o = .ok a S' ↔ o = some a ∧ S' = S := by
  cases o with
  | none => simp [optR]
  | some b => simp only [optR, R.ok.injEq, Option.some.injEq]; exact ⟨fun ⟨a, b⟩ => ⟨a, b.symm⟩, fun ⟨a, b⟩ => ⟨a, b.symm⟩⟩
theorem bind_eq {α β : Type} {r : R α} {f : α → Sto → R β} {b : β} {S' : Sto} : r.bind f = .ok b S' ↔ ∃ a S1, r = .ok a S1 ∧ f a S1 = .ok b S' := by
  cases r with
  | ok a S => exact ⟨fun h => ⟨a, S, rfl, h⟩, fun ⟨_, _, e, h⟩ => by cases e; exact h⟩
  | exc e S => simp [R.bind]
  | bad => simp [R.bind]
theorem ite_bad {α : Type} {p : Prop} [Decidable p] {r : R α} {a : α} {S' : Sto} : (if p then r else .bad) = .ok a S' ↔ p ∧ r = .ok a S' := by
  by_cases h : p <;> simp [h]
theorem lim_eq : (sizeLine : Nat) = lim := sizeLine_eq

section
variable {X : Cx} {c : Cfg} (hK : X.K = c.K) (hu : X.A.units + 65 < cLine) (hc : X.calm = true)
/-! ### ints -/
theorem mulOk_ok {i j : Int} (h : mulOk i j = true) : IntMulOk i j := by
  simp only [mulOk, Bool.or_eq_true, Bool.and_eq_true, decide_eq_true_eq] at h
  rcases h with (h | h) | h
  · exact CMul.ok (.inl h)
  · exact CMul.ok (.inr h)
  · exact CMulW.ok h
theorem shl_rule {i j : Int} (h1 : 0 ≤ j) (h2 : (i.natAbs.log2 : Int) + 1 + j ≤ 134217728) : CShl i j := by
  have b : Builtin.Int.intBits i ≤ i.natAbs.log2 + 1 := by
    unfold Builtin.Int.intBits
    split <;> omega
  have e : (2 : Int) ^ 27 = 134217728 := by decide
  refine ⟨h1, ?_⟩
  rw [e]; omega
theorem log2_bits (x : Int) : Builtin.Int.intBits x ≤ x.natAbs.log2 + 1 := by
  unfold Builtin.Int.intBits
  split <;> omega
theorem div_rule {i j : Int} {t u : Tok} {s : Shared} {Q : Value → Shared → Prop} {E : Value → Shared → Prop} {P : Program} {w : World} {A : Around} (h : divOk j = true) (q : Q (.int (i.fdiv j) s.toks) { s with toks := s.toks + 1 }) :
    wpAny (model P w) A (binaryOp .FloorDiv (.int i t) (.int j u)) Q E s := by
  simp only [divOk, Bool.or_eq_true, Bool.and_eq_true, decide_eq_true_eq] at h
  rcases h with ⟨h1, h2⟩ | ⟨h1, h2⟩
  · exact floordiv_int h1 q (.inl (PyProof.noPylong_small h2))
  · exact floordiv_int (by omega) q (.inl (PyProof.noPylong_of_log2 h2))
theorem op_binI {o : Operator} : OpR X (binaryOp o) (fun x y H Q => ∃ i j k, x = .int i ∧ y = .int j ∧ binI o i j = some k ∧ Q (.int k) H) := by
  intro pins s σ H x y v u Q I rx ry h
  obtain ⟨i, j, k, rfl, rfl, hk, q⟩ := h
  cases o <;> simp only [binI, Option.some.injEq, Option.ite_none_right_eq_some] at hk
  case Add => subst hk; exact op_add pins s σ H _ _ v u Q I rx ry ⟨i, j, rfl, rfl, q⟩
  case Sub => subst hk; exact op_sub pins s σ H _ _ v u Q I rx ry ⟨i, j, rfl, rfl, q⟩
  case Mult =>
    obtain ⟨h, rfl⟩ := hk
    obtain ⟨t, rfl⟩ := rx
    obtain ⟨t', rfl⟩ := ry
    exact mul_int ⟨.int (i * j), H, I.tok _, ⟨_, rfl⟩, q⟩ (mulOk_ok h)
  case FloorDiv =>
    obtain ⟨h, rfl⟩ := hk
    obtain ⟨t, rfl⟩ := rx
    obtain ⟨t', rfl⟩ := ry
    exact div_rule h ⟨.int _, H, I.tok _, ⟨_, rfl⟩, q⟩
  case Mod => obtain ⟨h, rfl⟩ := hk; exact op_modN pins s σ H _ _ v u Q I rx ry ⟨i, j, rfl, rfl, h, q⟩
  case Pow => obtain ⟨h, rfl⟩ := hk; exact op_pow pins s σ H _ _ v u Q I rx ry ⟨i, j, rfl, rfl, h, q⟩
  case LShift =>
    obtain ⟨⟨h1, h2⟩, rfl⟩ := hk
    exact op_shlW pins s σ H _ _ v u Q I rx ry ⟨i, j, rfl, rfl, shl_rule h1 h2, q⟩
  case RShift => obtain ⟨h, rfl⟩ := hk; exact op_shr pins s σ H _ _ v u Q I rx ry ⟨i, j, rfl, rfl, h, q⟩
  case BitAnd => subst hk; exact op_and pins s σ H _ _ v u Q I rx ry ⟨i, j, rfl, rfl, q⟩
  case BitOr => subst hk; exact op_or pins s σ H _ _ v u Q I rx ry ⟨i, j, rfl, rfl, q⟩
  case BitXor => subst hk; exact op_xor pins s σ H _ _ v u Q I rx ry ⟨i, j, rfl, rfl, q⟩
  all_goals cases hk
/-- list + list, of any kind -/
theorem op_catL : OpR X (binaryOp .Add) (fun x y H Q => ∃ a b xs ys, x = .ref a ∧ y = .ref b ∧ SqL X.K H a xs ∧ SqL X.K H b ys ∧ xs.length + ys.length ≤ sizeLine ∧ ∀ p, H p = none → Q (.ref p) (upd H p (.lst (xs ++ ys)))) := by
  intro pins s σ H x y v u Q I rx ry h
  obtain ⟨a, b, xs, ys, rfl, rfl, h1, h2, hz, q⟩ := h
  cases rx
  cases ry
  obtain ⟨vs, r1, p1, _⟩ := I.list h1
  obtain ⟨ws, r2, p2, _⟩ := I.list h2
  have e1 := r1.length
  have e2 := r2.length
  obtain ⟨⟨cls, dd, data, sl⟩, ho, hcl, n, hd⟩ := id p1.isList
  obtain ⟨⟨cls2, dd2, data2, sl2⟩, ho2, hcl2, n2, hd2⟩ := id p2.isList
  simp only at hcl hd hcl2 hd2
  subst hcl hd hcl2 hd2
  have e : vs.toArray ++ ws.toArray = (vs ++ ws).toArray := by simp
  refine concat_meets ⟨_, ho, rfl⟩ ⟨_, ho2, rfl⟩ noFill_list_add seq_list_add PySem.F.slot_list_add PySem.F.entry_list_add (PySem.F.args_list_add_2 _ _) (list_addW a b vs.toArray ws.toArray n n2 dd dd2 sl sl2 (by simp; omega)) ⟨ho, ho2, ?_⟩
  rw [e]
  exact ⟨.ref _, _, I.lnew (t' := s.toks) (r1.append r2) (by rw [List.length_append]; omega), rfl, q _ I.fresh⟩
include hK in
theorem op_binD {o : Operator} : OpR X (binaryOp o) (rD2 c (binD o)) := by
  intro pins s σ H x y v u Q I rx ry h
  obtain ⟨G, ι, S, a, b, d, S', sim, ra, rb, hf, post⟩ := h
  unfold binD at hf
  split at hf
  · rename_i i j
    obtain ⟨k, S1, g1, g2⟩ := bind_eq.mp hf
    obtain ⟨h1, e1⟩ := optR_ok.mp g1
    subst e1
    cases g2
    exact op_binI pins s σ H _ _ v u Q I rx ry ⟨i, j, k, ra.int_inv, rb.int_inv, h1, post.here sim (by rw [Rep])⟩
  · rename_i i j
    obtain ⟨⟨rfl, hz⟩, hg⟩ := ite_bad.mp hf
    cases hg
    exact op_add_str pins s σ H _ _ v u Q I rx ry ⟨i, j, ra.str_inv, rb.str_inv, by rw [lim_eq]; exact hz, post.here sim (by rw [Rep])⟩
  · rename_i as bs
    obtain ⟨⟨rfl, hz⟩, hg⟩ := ite_bad.mp hf
    cases hg
    have ra0 := ra
    have rb0 := rb
    rw [Rep] at ra rb
    obtain ⟨p, vs, rfl, qa, ta⟩ := ra
    obtain ⟨q, ws, rfl, qb, tb⟩ := rb
    have la := ta.length
    have lb := tb.length
    refine op_catA pins s σ H _ _ v u Q I rx ry ⟨p, q, vs, ws, rfl, rfl, by rw [hK]; exact sqT_sub qa sim.sub, by rw [hK]; exact sqT_sub qb sim.sub, by rw [lim_eq, la, lb]; exact hz, fun e => ?_, fun _ e => ?_, fun _ _ p' hp => post.tup sim (ta.append tb) hp⟩
    · have : as = [] := by cases as with
        | nil => rfl
        | cons x r => rw [e] at la; simp at la
      subst this
      exact post.here sim rb0
    · have : bs = [] := by cases bs with
        | nil => rfl
        | cons x r => rw [e] at lb; simp at lb
      subst this
      rw [List.append_nil] at post
      exact post.here sim ra0
  · split at hf
    · rename_i as bs e1 e2
      obtain ⟨hz, hg⟩ := ite_bad.mp hf
      cases hg
      obtain ⟨p, vs, rfl, qa, ta⟩ := sim.list ra e1
      obtain ⟨q, ws, rfl, qb, tb⟩ := sim.list rb e2
      exact op_catL pins s σ H _ _ v u Q I rx ry ⟨p, q, vs, ws, rfl, rfl, by rw [hK]; exact qa, by rw [hK]; exact qb, by rw [lim_eq, ta.length, tb.length]; exact hz, fun p' hp => post.lst sim (ta.append tb) hp⟩
    · cases hf
theorem iop_binI {o : Operator} : OpR X (inplaceOp o) (fun x y H Q => ∃ i j k, x = .int i ∧ y = .int j ∧ binI o i j = some k ∧ o ≠ .Pow ∧ o ≠ .Mod ∧ Q (.int k) H) := by
  intro pins s σ H x y v u Q I rx ry h
  obtain ⟨i, j, k, rfl, rfl, hk, hp, hm, q⟩ := h
  cases o <;> simp only [binI, Option.some.injEq, Option.ite_none_right_eq_some] at hk
  case Add => subst hk; exact iop_add pins s σ H _ _ v u Q I rx ry ⟨i, j, rfl, rfl, q⟩
  case Sub => subst hk; exact iop_sub pins s σ H _ _ v u Q I rx ry ⟨i, j, rfl, rfl, q⟩
  case Mult =>
    obtain ⟨h, rfl⟩ := hk
    obtain ⟨t, rfl⟩ := rx
    obtain ⟨t', rfl⟩ := ry
    exact imul_int ⟨.int (i * j), H, I.tok _, ⟨_, rfl⟩, q⟩ (mulOk_ok h)
  case FloorDiv =>
    obtain ⟨h, rfl⟩ := hk
    obtain ⟨t, rfl⟩ := rx
    obtain ⟨t', rfl⟩ := ry
    simp only [divOk, Bool.or_eq_true, Bool.and_eq_true, decide_eq_true_eq] at h
    rcases h with ⟨h1, h2⟩ | ⟨h1, h2⟩
    · exact ifloordiv_int h1 ⟨.int _, H, I.tok _, ⟨_, rfl⟩, q⟩ (.inl (PyProof.noPylong_small h2))
    · exact ifloordiv_int (by omega) ⟨.int _, H, I.tok _, ⟨_, rfl⟩, q⟩ (.inl (PyProof.noPylong_of_log2 h2))
  case Mod => exact absurd rfl hm
  case Pow => exact absurd rfl hp
  case LShift =>
    obtain ⟨⟨h1, h2⟩, rfl⟩ := hk
    exact iop_shlW pins s σ H _ _ v u Q I rx ry ⟨i, j, rfl, rfl, shl_rule h1 h2, q⟩
  case RShift => obtain ⟨h, rfl⟩ := hk; exact iop_shr pins s σ H _ _ v u Q I rx ry ⟨i, j, rfl, rfl, h, q⟩
  case BitAnd => subst hk; exact iop_and pins s σ H _ _ v u Q I rx ry ⟨i, j, rfl, rfl, q⟩
  case BitOr => subst hk; exact iop_or pins s σ H _ _ v u Q I rx ry ⟨i, j, rfl, rfl, q⟩
  case BitXor => subst hk; exact iop_xor pins s σ H _ _ v u Q I rx ry ⟨i, j, rfl, rfl, q⟩
  all_goals cases hk
theorem op_augD {o : Operator} : OpR X (inplaceOp o) (rD2 c (augD o)) := by
  intro pins s σ H x y v u Q I rx ry h
  obtain ⟨G, ι, S, a, b, d, S', sim, ra, rb, hf, post⟩ := h
  unfold augD at hf
  split at hf
  · rename_i i j
    obtain ⟨hp, hg⟩ := ite_bad.mp hf
    obtain ⟨k, S1, g1, g2⟩ := bind_eq.mp hg
    obtain ⟨h1, e1⟩ := optR_ok.mp g1
    subst e1
    cases g2
    exact iop_binI pins s σ H _ _ v u Q I rx ry ⟨i, j, k, ra.int_inv, rb.int_inv, h1, hp.1, hp.2, post.here sim (by rw [Rep])⟩
  · rename_i i j
    obtain ⟨⟨rfl, hz⟩, hg⟩ := ite_bad.mp hf
    cases hg
    exact iop_add_str pins s σ H _ _ v u Q I rx ry ⟨i, j, ra.str_inv, rb.str_inv, by rw [lim_eq]; exact hz, post.here sim (by rw [Rep])⟩
  · cases hf
end
end Py
namespace Py
open PySem PySem.Spec PyProof.Rows L2

/-! ### == and in -/
mutual
def D.pd : D → PyData
  | .non => .none
  | .bl b => .bool b
  | .int i => .int i
  | .str x => .str x
  | .tup xs => .tuple (D.pds xs)
  | .lst xs => .list (D.pds xs)
  | .obj _ _ => .none
  | .ref _ => .none
def D.pds : List D → List PyData
  | [] => []
  | x :: xs => D.pd x :: D.pds xs
end
theorem bind_some {α β : Type} {o : Option α} {f : α → Option β} {b : β} : o.bind f = some b ↔ ∃ a, o = some a ∧ f a = some b := by
  cases o with
  | none => simp
  | some a => exact ⟨fun h => ⟨a, rfl, h⟩, fun ⟨_, e, h⟩ => by cases e; exact h⟩
theorem map_some' {α β : Type} {o : Option α} {f : α → β} {b : β} : o.map f = some b ↔ ∃ a, o = some a ∧ f a = b := by
  cases o with
  | none => simp
  | some a => exact ⟨fun h => ⟨a, rfl, by simpa using h⟩, fun ⟨_, e, h⟩ => by cases e; simp [h]⟩
mutual
theorem D.dep_pd : ∀ (d : D) (n : Nat), D.dep d = some n → (D.pd d).canLay0 = true ∧ (D.pd d).depth = n
  | .non, n, h => by simp [D.dep] at h; subst h; simp [D.pd, PyData.canLay0, PyData.depth]
  | .bl b, n, h => by simp [D.dep] at h; subst h; simp [D.pd, PyData.canLay0, PyData.depth]
  | .int i, n, h => by simp [D.dep] at h; subst h; simp [D.pd, PyData.canLay0, PyData.depth]
  | .str x, n, h => by
    simp only [D.dep, Option.ite_none_right_eq_some, Option.some.injEq] at h
    obtain ⟨h1, rfl⟩ := h
    simp [D.pd, PyData.canLay0, PyData.depth, h1]
  | .tup xs, n, h => by
    rw [D.dep] at h
    obtain ⟨m, h1, rfl⟩ := map_some'.mp h
    have := D.deps_pd xs m h1
    simp [D.pd, PyData.canLay0, PyData.depth, this]
  | .lst xs, n, h => by
    rw [D.dep] at h
    obtain ⟨m, h1, rfl⟩ := map_some'.mp h
    have := D.deps_pd xs m h1
    simp [D.pd, PyData.canLay0, PyData.depth, this]
  | .obj _ _, n, h => by simp [D.dep] at h
  | .ref _, n, h => by simp [D.dep] at h
theorem D.deps_pd : ∀ (d : List D) (n : Nat), D.deps d = some n → PyData.canLayAll0 (D.pds d) = true ∧ PyData.depthAll (D.pds d) = n
  | [], n, h => by simp [D.deps] at h; subst h; simp [D.pds, PyData.canLayAll0, PyData.depthAll]
  | x :: xs, n, h => by
    rw [D.deps] at h
    obtain ⟨a, h1, h2⟩ := bind_some.mp h
    obtain ⟨b, h3, rfl⟩ := map_some'.mp h2
    have q1 := D.dep_pd x a h1
    have q2 := D.deps_pd xs b h3
    simp [D.pds, PyData.canLayAll0, PyData.depthAll, q1, q2]
end
theorem D.shp_dep {d : D} (h : d.shp = true) : ∃ n, D.dep d = some n ∧ n ≤ 60 := by
  unfold D.shp at h
  cases e : D.dep d with
  | none => rw [e] at h; simp at h
  | some n => rw [e] at h; exact ⟨n, rfl, by simpa using h⟩
theorem D.shp_pd {d : D} (h : d.shp = true) : SeqAt.shaped (D.pd d) = true := by
  obtain ⟨n, e, hn⟩ := D.shp_dep h
  obtain ⟨h1, h2⟩ := D.dep_pd d n e
  unfold SeqAt.shaped
  rw [h1, h2, Bool.true_and, decide_eq_true_eq]; omega
mutual
theorem D.eqv_pd : ∀ (a b : D) (n m : Nat), D.dep a = some n → D.dep b = some m → D.eqv a b = PyData.eqv (D.pd a) (D.pd b)
  | .non, b, n, m, h, h' => by cases b <;> simp [D.dep] at h' <;> simp [D.eqv, D.pd, PyData.eqv]
  | .bl x, b, n, m, h, h' => by cases b <;> simp [D.dep] at h' <;> simp [D.eqv, D.pd, PyData.eqv]
  | .int x, b, n, m, h, h' => by cases b <;> simp [D.dep] at h' <;> simp [D.eqv, D.pd, PyData.eqv]
  | .str x, b, n, m, h, h' => by cases b <;> simp [D.dep] at h' <;> simp [D.eqv, D.pd, PyData.eqv]
  | .obj _ _, b, n, m, h, h' => by simp [D.dep] at h
  | .ref _, b, n, m, h, h' => by simp [D.dep] at h
  | .tup xs, b, n, m, h, h' => by
    rw [D.dep] at h
    obtain ⟨k, h1, _⟩ := map_some'.mp h
    cases b with
    | tup ys =>
      rw [D.dep] at h'
      obtain ⟨k', h2, _⟩ := map_some'.mp h'
      simp only [D.eqv, D.pd, PyData.eqv]
      exact D.eqvs_pd xs ys k k' h1 h2
    | obj _ _ => simp [D.dep] at h'
    | ref _ => simp [D.dep] at h'
    | _ => simp [D.eqv, D.pd, PyData.eqv]
  | .lst xs, b, n, m, h, h' => by
    rw [D.dep] at h
    obtain ⟨k, h1, _⟩ := map_some'.mp h
    cases b with
    | lst ys =>
      rw [D.dep] at h'
      obtain ⟨k', h2, _⟩ := map_some'.mp h'
      simp only [D.eqv, D.pd, PyData.eqv]
      exact D.eqvs_pd xs ys k k' h1 h2
    | obj _ _ => simp [D.dep] at h'
    | ref _ => simp [D.dep] at h'
    | _ => simp [D.eqv, D.pd, PyData.eqv]
theorem D.eqvs_pd : ∀ (a b : List D) (n m : Nat), D.deps a = some n → D.deps b = some m → D.eqvs a b = PyData.eqvAll (D.pds a) (D.pds b)
  | [], b, n, m, h, h' => by cases b <;> simp [D.eqvs, D.pds, PyData.eqvAll]
  | x :: xs, b, n, m, h, h' => by
    cases b with
    | nil => simp [D.eqvs, D.pds, PyData.eqvAll]
    | cons y ys =>
      rw [D.deps] at h h'
      obtain ⟨a, h1, h2⟩ := bind_some.mp h
      obtain ⟨b, h3, rfl⟩ := map_some'.mp h2
      obtain ⟨a', h1', h2'⟩ := bind_some.mp h'
      obtain ⟨b', h3', rfl⟩ := map_some'.mp h2'
      simp only [D.eqvs, D.pds, PyData.eqvAll]
      rw [D.eqv_pd x y _ _ h1 h1', D.eqvs_pd xs ys _ _ h3 h3']
end
section
variable {c : Cfg} {G : Hp} {ι : List Addr} {H : Hp} {S : Sto}
mutual
theorem dp_of (sub : ∀ a o, G a = some o → H a = some o) (k : Nat → Option D) (hk : ∀ n a v m, k n = some a → D.dep a = some m → Rep c G ι (.ref n) v → Dp c.K H v (D.pd a)) :
    ∀ (d a : D) (v : V) (m : Nat), D.mapR k d = some a → D.dep a = some m → Rep c G ι d v → Dp c.K H v (D.pd a)
  | .non, a, v, m, h, e, r => by cases h; rw [r.non_inv]; exact .non
  | .bl _, a, v, m, h, e, r => by cases h; rw [r.bl_inv]; exact .bl _
  | .int _, a, v, m, h, e, r => by cases h; rw [r.int_inv]; exact .int _
  | .str _, a, v, m, h, e, r => by cases h; rw [r.str_inv]; exact .str _
  | .ref n, a, v, m, h, e, r => hk n a v m h e r
  | .obj j ds, a, v, m, h, e, r => by
    rw [D.mapR] at h
    obtain ⟨b, _, rfl⟩ := map_some'.mp h
    simp [D.dep] at e
  | .tup ds, a, v, m, h, e, r => by
    rw [D.mapR] at h
    obtain ⟨b, h1, rfl⟩ := map_some'.mp h
    rw [D.dep] at e
    obtain ⟨m', e1, _⟩ := map_some'.mp e
    rw [Rep] at r
    obtain ⟨p, vs, rfl, q, t⟩ := r
    exact .tup (sqT_sub q sub) (dps_of sub k hk ds b vs m' h1 e1 t)
  | .lst ds, a, v, m, h, e, r => by
    rw [D.mapR] at h
    obtain ⟨b, h1, rfl⟩ := map_some'.mp h
    rw [D.dep] at e
    obtain ⟨m', e1, _⟩ := map_some'.mp e
    rw [Rep] at r
    obtain ⟨p, vs, rfl, q, t⟩ := r
    exact .lst (sqL_sub q sub) (dps_of sub k hk ds b vs m' h1 e1 t)
theorem dps_of (sub : ∀ a o, G a = some o → H a = some o) (k : Nat → Option D) (hk : ∀ n a v m, k n = some a → D.dep a = some m → Rep c G ι (.ref n) v → Dp c.K H v (D.pd a)) :
    ∀ (d a : List D) (v : List V) (m : Nat), D.mapRs k d = some a → D.deps a = some m → Reps c G ι d v → DpAll c.K H v (D.pds a)
  | [], a, v, m, h, e, r => by
    rw [D.mapRs] at h; cases h
    rw [Reps] at r; subst r
    exact .nil
  | d :: ds, a, v, m, h, e, r => by
    rw [D.mapRs] at h
    obtain ⟨x, h1, h2⟩ := bind_some.mp h
    obtain ⟨xs, h3, rfl⟩ := map_some'.mp h2
    rw [D.deps] at e
    obtain ⟨m1, e1, e2⟩ := bind_some.mp e
    obtain ⟨m2, e3, _⟩ := map_some'.mp e2
    rw [Reps] at r
    obtain ⟨w, ws, rfl, q, t⟩ := r
    exact .cons (dp_of sub k hk d x w m1 h1 e1 q) (dps_of sub k hk ds xs ws m2 h3 e3 t)
end
theorem dp_rd (sim : Sim c G ι S H) (x : Nat) : ∀ (f n : Nat) (a : D) (v : V) (m : Nat), rd S 0 x f n = some a → D.dep a = some m → Rep c G ι (.ref n) v → Dp c.K H v (D.pd a)
  | 0, n, a, v, m, h, e, r => by simp [rd] at h
  | f + 1, n, a, v, m, h, e, r => by
    rw [rd, if_neg (Nat.not_lt_zero n)] at h
    split at h
    · cases h
    rw [Rep] at r
    obtain ⟨p, hp, rfl⟩ := r
    split at h
    · rename_i xs hS
      obtain ⟨b, h1, rfl⟩ := map_some'.mp h
      rw [D.dep] at e
      obtain ⟨m', e1, _⟩ := map_some'.mp e
      obtain ⟨vs, q1, q2⟩ := sim.ent n _ p hS hp
      exact .lst (SqL.of q1) (dps_of sim.sub _ (dp_rd sim x f) xs b vs m' h1 e1 q2)
    · rename_i k xs hS
      obtain ⟨b, h1, rfl⟩ := map_some'.mp h
      simp [D.dep] at e
    · cases h
theorem dp_rsv (sim : Sim c G ι S H) {d a : D} {v : V} (h : rsv S d = some a) (e : a.shp = true) (r : Rep c G ι d v) : Dp c.K H v (D.pd a) := by
  obtain ⟨n, e1, _⟩ := D.shp_dep e
  exact dp_of sim.sub _ (dp_rd sim S.length 6) d a v n h e1 r
end
theorem pds_any {x : D} {n : Nat} (hx : D.dep x = some n) : ∀ {ys : List D} {m : Nat}, D.deps ys = some m → (D.pds ys).any (fun z => PyData.eqv z (D.pd x)) = ys.any fun z => D.eqv z x
  | [], _, _ => rfl
  | y :: ys, m, h => by
    rw [D.deps] at h
    obtain ⟨a, h1, h2⟩ := bind_some.mp h
    obtain ⟨b, h3, _⟩ := map_some'.mp h2
    rw [D.pds, List.any_cons, List.any_cons, pds_any hx h3, D.eqv_pd y x _ _ h1 hx]
section
variable {X : Cx} {c : Cfg} (hK : X.K = c.K) (hu : X.A.units + 65 < cLine)
theorem op_inTup : OpR X (compareOp .In) (fun x y H Q => ∃ d ds, Dp X.K H x d ∧ Dp X.K H y (.tuple ds) ∧ SeqAt.shaped d = true ∧ SeqAt.shaped (.tuple ds) = true ∧ X.A.units + 65 < cLine ∧ Q (.bl (ds.any fun z => PyData.eqv z d)) H) := by
  intro pins s σ H x y v u Q I rx ry h
  obtain ⟨d, ds, hd, he, sd, se, hu, q⟩ := h
  obtain ⟨as, r1⟩ := Dp.reads I d x v hd rx
  obtain ⟨bs, r2⟩ := Dp.reads I (.tuple ds) y u he ry
  exact SeqAt.in_tuple_reads r2 r1 (SeqAt.canLay_of_shaped se) (SeqAt.canLay_of_shaped sd) (room_in_shaped sd hu) ⟨.bl _, H, I, rfl, q⟩
theorem op_notInTup : OpR X (compareOp .NotIn) (fun x y H Q => ∃ d ds, Dp X.K H x d ∧ Dp X.K H y (.tuple ds) ∧ SeqAt.shaped d = true ∧ SeqAt.shaped (.tuple ds) = true ∧ X.A.units + 65 < cLine ∧ Q (.bl (!ds.any fun z => PyData.eqv z d)) H) := by
  intro pins s σ H x y v u Q I rx ry h
  obtain ⟨d, ds, hd, he, sd, se, hu, q⟩ := h
  obtain ⟨as, r1⟩ := Dp.reads I d x v hd rx
  obtain ⟨bs, r2⟩ := Dp.reads I (.tuple ds) y u he ry
  exact SeqAt.notIn_tuple_reads r2 r1 (SeqAt.canLay_of_shaped se) (SeqAt.canLay_of_shaped sd) (room_in_shaped sd hu) ⟨.bl _, H, I, rfl, q⟩
theorem eqB_ok {S : Sto} {x y : D} {b : Bool} (h : eqB S x y = some b) : ∃ a e, rsv S x = some a ∧ rsv S y = some e ∧ a.shp = true ∧ e.shp = true ∧ b = PyData.eqv (D.pd a) (D.pd e) := by
  unfold eqB at h
  split at h
  · rename_i i j
    cases h
    exact ⟨.int i, .int j, rfl, rfl, by simp [D.shp, D.dep], by simp [D.shp, D.dep], by simp only [D.pd, PyData.eqv]; exact (Bool.beq_eq_decide_eq i j).symm⟩
  · obtain ⟨a, h1, h2⟩ := bind_some.mp h
    obtain ⟨e, h3, h4⟩ := bind_some.mp h2
    rw [Option.ite_none_right_eq_some, Bool.and_eq_true] at h4
    obtain ⟨⟨h5, h6⟩, h7⟩ := h4
    cases h7
    obtain ⟨n, e1, _⟩ := D.shp_dep h5
    obtain ⟨m, e2, _⟩ := D.shp_dep h6
    exact ⟨a, e, h1, h3, h5, h6, D.eqv_pd a e n m e1 e2⟩
include hK hu in
theorem op_cmpD {o : CmpOp} : OpR X (compareOp o) (rD2 c (cmpD o)) := by
  intro pins s σ H x y v u Q I rx ry h
  obtain ⟨G, ι, S, a, b, d, S', sim, ra, rb, hf, post⟩ := h
  cases o
  case Eq =>
    obtain ⟨r, S1, g1, g2⟩ := bind_eq.mp hf
    obtain ⟨h1, e1⟩ := optR_ok.mp g1
    subst e1; cases g2
    obtain ⟨p, q, h2, h3, h4, h5, rfl⟩ := eqB_ok h1
    exact op_eqD (by omega) pins s σ H _ _ v u Q I rx ry ⟨_, _, by rw [hK]; exact dp_rsv sim h2 h4 ra, by rw [hK]; exact dp_rsv sim h3 h5 rb, D.shp_pd h4, D.shp_pd h5, post.here sim (by rw [Rep])⟩
  case NotEq =>
    obtain ⟨r, S1, g1, g2⟩ := bind_eq.mp hf
    obtain ⟨h1, e1⟩ := optR_ok.mp g1
    subst e1; cases g2
    obtain ⟨p, q, h2, h3, h4, h5, rfl⟩ := eqB_ok h1
    exact op_neD (by omega) pins s σ H _ _ v u Q I rx ry ⟨_, _, by rw [hK]; exact dp_rsv sim h2 h4 ra, by rw [hK]; exact dp_rsv sim h3 h5 rb, D.shp_pd h4, D.shp_pd h5, post.here sim (by rw [Rep])⟩
  case In =>
    obtain ⟨r, S1, g1, g2⟩ := bind_eq.mp hf
    obtain ⟨h1, e1⟩ := optR_ok.mp g1
    subst e1; cases g2
    obtain ⟨p, h2, h3⟩ := bind_some.mp h1
    obtain ⟨q, h4, h5⟩ := bind_some.mp h3
    split at h5
    · rename_i ys
      rw [Option.ite_none_right_eq_some, Bool.and_eq_true] at h5
      obtain ⟨⟨h5, h6⟩, h7⟩ := h5
      cases h7
      obtain ⟨n, e1, _⟩ := D.shp_dep h5
      obtain ⟨m, e2, _⟩ := D.shp_dep h6
      rw [D.dep] at e2
      obtain ⟨m', e3, _⟩ := map_some'.mp e2
      refine op_inD hu pins s σ H _ _ v u Q I rx ry ⟨_, _, by rw [hK]; exact dp_rsv sim h2 h5 ra, by rw [hK]; exact dp_rsv sim h4 h6 rb, D.shp_pd h5, D.shp_pd h6, ?_⟩
      rw [pds_any e1 e3]
      exact post.here sim (by rw [Rep])
    · rename_i ys
      rw [Option.ite_none_right_eq_some, Bool.and_eq_true] at h5
      obtain ⟨⟨h5, h6⟩, h7⟩ := h5
      cases h7
      obtain ⟨n, e1, _⟩ := D.shp_dep h5
      obtain ⟨m, e2, _⟩ := D.shp_dep h6
      rw [D.dep] at e2
      obtain ⟨m', e3, _⟩ := map_some'.mp e2
      refine op_inTup pins s σ H _ _ v u Q I rx ry ⟨_, _, by rw [hK]; exact dp_rsv sim h2 h5 ra, by rw [hK]; exact dp_rsv sim h4 h6 rb, D.shp_pd h5, D.shp_pd h6, hu, ?_⟩
      rw [pds_any e1 e3]
      exact post.here sim (by rw [Rep])
    · cases h5
  case NotIn =>
    obtain ⟨r, S1, g1, g2⟩ := bind_eq.mp hf
    obtain ⟨h1, e1⟩ := optR_ok.mp g1
    subst e1; cases g2
    obtain ⟨p, h2, h3⟩ := bind_some.mp h1
    obtain ⟨q, h4, h5⟩ := bind_some.mp h3
    split at h5
    · rename_i ys
      rw [Option.ite_none_right_eq_some, Bool.and_eq_true] at h5
      obtain ⟨⟨h5, h6⟩, h7⟩ := h5
      cases h7
      obtain ⟨n, e1, _⟩ := D.shp_dep h5
      obtain ⟨m, e2, _⟩ := D.shp_dep h6
      rw [D.dep] at e2
      obtain ⟨m', e3, _⟩ := map_some'.mp e2
      refine op_notInD hu pins s σ H _ _ v u Q I rx ry ⟨_, _, by rw [hK]; exact dp_rsv sim h2 h5 ra, by rw [hK]; exact dp_rsv sim h4 h6 rb, D.shp_pd h5, D.shp_pd h6, ?_⟩
      rw [pds_any e1 e3]
      exact post.here sim (by rw [Rep])
    · rename_i ys
      rw [Option.ite_none_right_eq_some, Bool.and_eq_true] at h5
      obtain ⟨⟨h5, h6⟩, h7⟩ := h5
      cases h7
      obtain ⟨n, e1, _⟩ := D.shp_dep h5
      obtain ⟨m, e2, _⟩ := D.shp_dep h6
      rw [D.dep] at e2
      obtain ⟨m', e3, _⟩ := map_some'.mp e2
      refine op_notInTup pins s σ H _ _ v u Q I rx ry ⟨_, _, by rw [hK]; exact dp_rsv sim h2 h5 ra, by rw [hK]; exact dp_rsv sim h4 h6 rb, D.shp_pd h5, D.shp_pd h6, hu, ?_⟩
      rw [pds_any e1 e3]
      exact post.here sim (by rw [Rep])
    · cases h5
  case Is =>
    simp only [cmpD] at hf
    split at hf
    · cases hf
      refine op_isN pins s σ H _ _ v u Q I rx ry ⟨rb.non_inv, ?_⟩
      have e : decide (x = V.non) = decide (a = D.non) := by
        cases a
        case non => rw [ra.non_inv]; simp
        case bl => rw [ra.bl_inv]; simp
        case int => rw [ra.int_inv]; simp
        case str => rw [ra.str_inv]; simp
        all_goals (rw [Rep] at ra)
        case tup => obtain ⟨_, _, rfl, _⟩ := ra; simp
        case lst => obtain ⟨_, _, rfl, _⟩ := ra; simp
        case obj => obtain ⟨_, _, _, rfl, _⟩ := ra; simp
        case ref => obtain ⟨_, _, rfl⟩ := ra; simp
      rw [e]
      exact post.here sim (by rw [Rep])
    · cases hf
      exact op_is_bl pins s σ H _ _ v u Q I rx ry ⟨_, _, ra.bl_inv, rb.bl_inv, post.here sim (by rw [Rep])⟩
    · cases hf
  case IsNot =>
    simp only [cmpD] at hf
    split at hf
    · cases hf
      refine op_notN pins s σ H _ _ v u Q I rx ry ⟨rb.non_inv, ?_⟩
      have e : decide (x = V.non) = decide (a = D.non) := by
        cases a
        case non => rw [ra.non_inv]; simp
        case bl => rw [ra.bl_inv]; simp
        case int => rw [ra.int_inv]; simp
        case str => rw [ra.str_inv]; simp
        all_goals (rw [Rep] at ra)
        case tup => obtain ⟨_, _, rfl, _⟩ := ra; simp
        case lst => obtain ⟨_, _, rfl, _⟩ := ra; simp
        case obj => obtain ⟨_, _, _, rfl, _⟩ := ra; simp
        case ref => obtain ⟨_, _, rfl⟩ := ra; simp
      rw [e]
      exact post.here sim (by rw [Rep])
    · cases hf
      exact op_isnot_bl pins s σ H _ _ v u Q I rx ry ⟨_, _, ra.bl_inv, rb.bl_inv, post.here sim (by rw [Rep])⟩
    · cases hf
  case Lt =>
    simp only [cmpD] at hf
    split at hf
    · cases hf; exact op_lt pins s σ H _ _ v u Q I rx ry ⟨_, _, ra.int_inv, rb.int_inv, post.here sim (by rw [Rep])⟩
    · cases hf
  case LtE =>
    simp only [cmpD] at hf
    split at hf
    · cases hf; exact op_le pins s σ H _ _ v u Q I rx ry ⟨_, _, ra.int_inv, rb.int_inv, post.here sim (by rw [Rep])⟩
    · cases hf
  case Gt =>
    simp only [cmpD] at hf
    split at hf
    · cases hf; exact op_gt pins s σ H _ _ v u Q I rx ry ⟨_, _, ra.int_inv, rb.int_inv, post.here sim (by rw [Rep])⟩
    · cases hf
  case GtE =>
    simp only [cmpD] at hf
    split at hf
    · cases hf; exact op_ge pins s σ H _ _ v u Q I rx ry ⟨_, _, ra.int_inv, rb.int_inv, post.here sim (by rw [Rep])⟩
    · cases hf

/-! ### truth -/
theorem truD_ok {S : Sto} {G : Hp} {ι : List Addr} {H : Hp} {d : D} {v : V} {k : Bool} (sim : Sim c G ι S H) (r : Rep c G ι d v) (h : truD S d = some k) : TruV c.K v H k := by
  cases d
  case non => simp only [truD, Option.some.injEq] at h; rw [r.non_inv]; show k = false; exact h.symm
  case bl => simp only [truD, Option.some.injEq] at h; rw [r.bl_inv]; exact h.symm
  case int => simp only [truD, Option.some.injEq] at h; rw [r.int_inv]; exact h.symm
  case str x =>
    simp only [truD, Option.ite_none_right_eq_some, Option.some.injEq] at h
    rw [r.str_inv]; exact ⟨by rw [lim_eq]; exact h.1, h.2.symm⟩
  case obj => simp [truD] at h
  all_goals
    simp only [truD] at h
    obtain ⟨xs, h1, h2⟩ := map_some'.mp h
    obtain ⟨a, vs, rfl, q, t⟩ := sim.seq r h1
    have e : vs.isEmpty = xs.isEmpty := by
      have := t.length
      cases vs <;> cases xs <;> simp_all
    rcases q with q | q
    · exact .inl ⟨vs, q, by rw [e]; exact h2.symm⟩
    · exact .inr (.inl ⟨vs, q, by rw [e]; exact h2.symm⟩)

/-! ### subscripts -/
theorem ixD_eq {n : Nat} {i : Int} : ixD n i = ixN n i := rfl
include hK in
theorem ix_D : IxR X (rD2 c idxD) := by
  intro value slice pins s σ H x y v u Q I rx ry h hs
  obtain ⟨G, ι, S, a, b, d, S', sim, ra, rb, hf, post⟩ := h
  unfold idxD at hf
  split at hf
  · rename_i z i
    obtain ⟨hz, hg⟩ := ite_bad.mp hf
    obtain ⟨k, S1, g1, g2⟩ := bind_eq.mp hg
    obtain ⟨h1, e1⟩ := optR_ok.mp g1
    subst e1; cases g2
    exact ix_str value slice pins s σ H _ _ v u Q I rx ry ⟨z, i, k, ra.str_inv, rb.int_inv, by rw [lim_eq]; exact hz, h1, post.here sim (by rw [Rep])⟩ hs
  · rename_i i _
    obtain ⟨h1, e1⟩ := optR_ok.mp hf
    subst e1
    obtain ⟨xs, h2, h3⟩ := bind_some.mp h1
    obtain ⟨p, vs, rfl, q, t⟩ := sim.seq ra h2
    obtain ⟨j, h4, h5⟩ := bind_some.mp h3
    obtain ⟨w, hw, rw'⟩ := t.get h5
    have hat : atI vs i = some w := by
      unfold atI
      rw [t.length, ← ixD_eq, h4]; exact hw
    rcases q with q | q
    · exact ix_list value slice pins s σ H _ _ v u Q I rx ry ⟨p, vs, i, w, rfl, rb.int_inv, by rw [hK]; exact q, hat, post.here sim rw'⟩ hs
    · exact ix_tup value slice pins s σ H _ _ v u Q I rx ry ⟨p, vs, i, w, rfl, rb.int_inv, by rw [hK]; exact q, hat, post.here sim rw'⟩ hs
  · cases hf
theorem cutIx_eq (n d : Nat) (o : Option Int) : cutIx n d o = HT.sIx n d o := by
  cases o with
  | none => rfl
  | some i => rfl
theorem cutD_reps {G : Hp} {ι : List Addr} {xs : List D} {vs : List V} {lo hi : Option Int} (t : Reps c G ι xs vs) : Reps c G ι (cutD xs lo hi) (cutV vs lo hi) := by
  unfold cutD cutV
  rw [cutIx_eq, cutIx_eq, ← t.length]
  exact (t.drop _).take _
end
end Py
namespace Py
open PySem PySem.Spec PyProof.Rows L2
section
variable {X : Cx} {c : Cfg} (hK : X.K = c.K) (hu : X.A.units + 65 < cLine) (hc : X.calm = true)
/-! ### slices -/
def rDS (c : Cfg) : V → Option Int → Option Int → Hp → VK → Prop := fun v lo hi H Q => ∃ G ι S x d S', Sim c G ι S H ∧ Rep c G ι x v ∧ slcD x lo hi S = .ok d S' ∧ Post c G ι H d S' Q
theorem sl_or {r : V → Option Int → Option Int → Hp → VK → Prop} (h : ∀ v lo hi H Q, r v lo hi H Q → (rSlS v lo hi H Q ∨ rSlA X.K v lo hi H Q ∨ rSlL X.K v lo hi H Q)) : SlR X r := by
  intro pins s σ H x v vl vu lo hi sl Q I rx hs pl pu q
  rcases h _ _ _ _ _ q with q | q | q
  · exact sl_str pins s σ H x v vl vu lo hi sl Q I rx hs pl pu q
  · exact sl_tupA pins s σ H x v vl vu lo hi sl Q I rx hs pl pu q
  · exact sl_list pins s σ H x v vl vu lo hi sl Q I rx hs pl pu q
include hK in
theorem sl_D : SlR X (rDS c) := by
  refine sl_or fun v lo hi H Q h => ?_
  obtain ⟨G, ι, S, x, d, S', sim, rx, hf, post⟩ := h
  unfold slcD at hf
  split at hf
  · rename_i z
    obtain ⟨hz, hg⟩ := ite_bad.mp hf
    cases hg
    refine .inl ⟨z, rx.str_inv, by rw [lim_eq]; exact hz, ?_⟩
    have e : cutS z lo hi = ⟨(cutD z.cps.toList lo hi).toArray⟩ := by
      unfold cutS cutD
      rw [cutIx_eq, cutIx_eq]
      first | rfl | simp [Str.length]
    rw [e]
    exact post.here sim (by rw [Rep])
  · rename_i xs
    cases hf
    have rx0 := rx
    rw [Rep] at rx
    obtain ⟨a, vs, rfl, q, t⟩ := rx
    refine .inr (.inl ⟨a, vs, rfl, by rw [hK]; exact sqT_sub q sim.sub, fun hw => ?_, fun _ p hp => post.tup sim (cutD_reps t) hp⟩)
    have e : cutD xs lo hi = xs := by
      unfold cutD
      rw [cutIx_eq, cutIx_eq, ← t.length, hw.1, hw.2, t.length]
      simp
    rw [e] at post
    exact post.here sim rx0
  · obtain ⟨xs, S1, g1, g2⟩ := bind_eq.mp hf
    obtain ⟨h1, e1⟩ := optR_ok.mp g1
    subst e1; cases g2
    obtain ⟨a, vs, rfl, q, t⟩ := sim.list rx h1
    exact .inr (.inr ⟨a, vs, rfl, by rw [hK]; exact q, fun p hp => post.lst sim (cutD_reps t) hp⟩)

/-! ### built-in functions -/
theorem maxI_spec : ∀ (r : List Int) (x : Int), maxI x r ∈ x :: r ∧ ∀ y ∈ x :: r, y ≤ maxI x r
  | [], x => by simp [maxI]
  | y :: r, x => by
    obtain ⟨h1, h2⟩ := maxI_spec r (if y > x then y else x)
    rw [maxI]
    refine ⟨?_, fun z hz => ?_⟩
    · rcases List.mem_cons.mp h1 with e | e
      · rw [e]; split <;> simp
      · exact List.mem_cons_of_mem _ (List.mem_cons_of_mem _ e)
    · have h3 := h2 _ List.mem_cons_self
      generalize maxI (if y > x then y else x) r = m at h2 h3 ⊢
      rcases List.mem_cons.mp hz with e | e
      · subst e; split at h3 <;> omega
      · rcases List.mem_cons.mp e with e | e
        · subst e; split at h3 <;> omega
        · exact h2 z (List.mem_cons_of_mem _ e)
theorem minI_spec : ∀ (r : List Int) (x : Int), minI x r ∈ x :: r ∧ ∀ y ∈ x :: r, minI x r ≤ y
  | [], x => by simp [minI]
  | y :: r, x => by
    obtain ⟨h1, h2⟩ := minI_spec r (if y < x then y else x)
    rw [minI]
    refine ⟨?_, fun z hz => ?_⟩
    · rcases List.mem_cons.mp h1 with e | e
      · rw [e]; split <;> simp
      · exact List.mem_cons_of_mem _ (List.mem_cons_of_mem _ e)
    · have h3 := h2 _ List.mem_cons_self
      generalize minI (if y < x then y else x) r = m at h2 h3 ⊢
      rcases List.mem_cons.mp hz with e | e
      · subst e; split at h3 <;> omega
      · rcases List.mem_cons.mp e with e | e
        · subst e; split at h3 <;> omega
        · exact h2 z (List.mem_cons_of_mem _ e)
theorem insI_perm (x : Int) : ∀ r : List Int, (insI x r).Perm (x :: r)
  | [] => .refl _
  | y :: r => by
    rw [insI]
    split
    · exact .refl _
    · exact ((insI_perm x r).cons y).trans (List.Perm.swap x y r)
theorem sortI_perm : ∀ r : List Int, (sortI r).Perm r
  | [] => .refl _
  | x :: r => (insI_perm x (sortI r)).trans ((sortI_perm r).cons x)
theorem insI_sorted (x : Int) : ∀ r : List Int, r.Pairwise (· ≤ ·) → (insI x r).Pairwise (· ≤ ·)
  | [], _ => by simp [insI]
  | y :: r, h => by
    obtain ⟨h1, h2⟩ := List.pairwise_cons.mp h
    rw [insI]
    split
    · rename_i hx
      refine List.pairwise_cons.mpr ⟨fun z hz => ?_, h⟩
      rcases List.mem_cons.mp hz with e | e
      · subst e; exact hx
      · exact Int.le_trans hx (h1 z e)
    · rename_i hx
      refine List.pairwise_cons.mpr ⟨fun z hz => ?_, insI_sorted x r h2⟩
      rcases List.mem_cons.mp ((insI_perm x r).mem_iff.mp hz) with e | e
      · subst e; omega
      · exact h1 z e
theorem sortI_sorted : ∀ r : List Int, (sortI r).Pairwise (· ≤ ·)
  | [] => .nil
  | x :: r => insI_sorted x _ (sortI_sorted r)
theorem sorted_unique : ∀ {a b : List Int}, a.Perm b → a.Pairwise (· ≤ ·) → b.Pairwise (· ≤ ·) → a = b
  | [], b, p, _, _ => by rw [p.nil_eq]
  | x :: a, [], p, _, _ => by have := p.length_eq; simp at this
  | x :: a, y :: b, p, ha, hb => by
    obtain ⟨a1, a2⟩ := List.pairwise_cons.mp ha
    obtain ⟨b1, b2⟩ := List.pairwise_cons.mp hb
    have e : x = y := by
      have m1 : x ∈ y :: b := p.mem_iff.mp List.mem_cons_self
      have m2 : y ∈ x :: a := p.mem_iff.mpr List.mem_cons_self
      rcases List.mem_cons.mp m1 with e | e
      · exact e
      · rcases List.mem_cons.mp m2 with e' | e'
        · exact e'.symm
        · have := b1 x e
          have := a1 y e'
          omega
    subst e
    rw [sorted_unique (List.perm_cons x |>.mp p) a2 b2]
/-- the code of a built-in -/
def biV : Bi → Value
  | .len => .builtin "len"
  | .abs => .builtin "abs"
  | .int => .type "int"
  | .str => .type "str"
  | .list => .type "list"
  | .list0 => .type "list"
  | .tuple => .type "tuple"
  | .tuple0 => .type "tuple"
  | .min2 => .builtin "min"
  | .max2 => .builtin "max"
  | .min => .builtin "min"
  | .max => .builtin "max"
  | .sum => .builtin "sum"
  | .sorted => .builtin "sorted"
  | .any => .builtin "any"
  | .all => .builtin "all"
  | .isinst _ => .builtin "isinstance"
theorem isTyD_ok {t T : String} {b : Bool} (h : isTyD t T = some b) : kitB t T = some b := by
  unfold isTyD at h
  rw [Option.ite_none_right_eq_some] at h
  obtain ⟨⟨h1, h2⟩, h3⟩ := h
  rcases h1 with rfl | rfl | rfl | rfl | rfl | rfl <;> rcases h2 with rfl | rfl | rfl | rfl | rfl | rfl <;> (revert h3; cases b <;> decide +kernel)
theorem kitAt_list {pins : List (Addr × Obj)} {s : Shared} {σ : L2.St} {H : Hp} {a : Addr} {xs : List V} (I : L2.Inv X pins σ H s) (h : SqL X.K H a xs) : PySem.W.KitAt a "list" s.heap := by
  obtain ⟨its, _, pl, _⟩ := I.list h
  obtain ⟨o, n, e, c, _⟩ := pl
  exact ⟨o, e, c⟩
theorem kitAt_tup {pins : List (Addr × Obj)} {s : Shared} {σ : L2.St} {H : Hp} {a : Addr} {xs : List V} (I : L2.Inv X pins σ H s) (h : SqT X.K H a xs) : PySem.W.KitAt a "tuple" s.heap := by
  obtain ⟨its, _, pl, _⟩ := I.tuple h
  obtain ⟨o, e, c, _⟩ := pl
  exact ⟨o, e, c⟩
include hK in
theorem isinst_D {T : String} {pins : List (Addr × Obj)} {s : Shared} {σ : L2.St} {H : Hp} {v : V} {u : Value} {Q : VK} {G : Hp} {ι : List Addr} {S : Sto} {d : D} {t : String} {b : Bool} (I : L2.Inv X pins σ H s) (ru : RelV v u) (sim : Sim c G ι S H) (r : Rep c G ι d v)
    (ht : tyD S d = some t) (hb : isTyD t T = some b) (q : Q (.bl b) H) : wpAny (model X.prog X.w) X.A (call (.builtin "isinstance") [u, .type T]) (EP X pins σ Q) X.xe s := by
  have e : PySem.W.kitOne X.K (.type t) (.type T) = some b := kit_ty (isTyD_ok hb)
  have fin : ∀ tk, EP X pins σ Q (.bool b) { s with toks := tk } := fun tk => ⟨.bl b, H, I.tok tk, rfl, q⟩
  cases d
  case non => cases ht; rw [r.non_inv] at ru; cases ru; exact PySem.W.kia_one PySem.W.kitx_none I.kIn True.intro e (fun z => nomatch z) fin
  case bl => cases ht; rw [r.bl_inv] at ru; cases ru; exact PySem.W.kia_one PySem.W.kitx_bool I.kIn True.intro e (fun z => nomatch z) fin
  case int => cases ht; rw [r.int_inv] at ru; obtain ⟨_, rfl⟩ := ru; exact PySem.W.kia_one PySem.W.kitx_int I.kIn True.intro e (fun z => nomatch z) fin
  case str => cases ht; rw [r.str_inv] at ru; obtain ⟨_, rfl⟩ := ru; exact PySem.W.kia_one PySem.W.kitx_str I.kIn True.intro e (fun z => nomatch z) fin
  case tup =>
    cases ht
    rw [Rep] at r
    obtain ⟨a, vs, rfl, q1, _⟩ := r
    cases ru
    exact PySem.W.kia_one PySem.W.kitx_tuple I.kIn (kitAt_tup I (by rw [hK]; exact sqT_sub q1 sim.sub)) e (fun z => nomatch z) fin
  case lst =>
    cases ht
    rw [Rep] at r
    obtain ⟨a, vs, rfl, q1, _⟩ := r
    cases ru
    exact PySem.W.kia_one PySem.W.kitx_list I.kIn (kitAt_list I (by rw [hK]; exact sqL_sub q1 sim.sub)) e (fun z => nomatch z) fin
  case obj => cases ht
  case ref n =>
    simp only [tyD] at ht
    split at ht
    · rename_i xs hS
      cases ht
      rw [Rep] at r
      obtain ⟨a, ha, rfl⟩ := r
      cases ru
      obtain ⟨vs, h1, _⟩ := sim.ent n _ a hS ha
      exact PySem.W.kia_one PySem.W.kitx_list I.kIn (kitAt_list I (SqL.of h1)) e (fun z => nomatch z) fin
    · cases ht
/-- all but isinstance -/
def notIs : Bi → Bool
  | .isinst _ => false
  | _ => true
include hK hc in
theorem bi_D {b : Bi} (hb : notIs b = true) : CallR X (biV b) (rDL c (biD b)) := by
  intro pins s σ H xs us Q I rx h
  obtain ⟨G, ι, S, ds, d, S', sim, rs, hf, post⟩ := h
  have one : ∀ {d : D}, Reps c G ι [d] xs → ∃ v, xs = [v] ∧ Rep c G ι d v := fun {d} r => by
    rw [Reps] at r
    obtain ⟨v, r', rfl, q, t⟩ := r
    rw [Reps] at t
    exact ⟨v, by rw [t], q⟩
  unfold biD at hf
  split at hf
  · -- len of a text
    obtain ⟨hz, hg⟩ := ite_bad.mp hf
    cases hg
    obtain ⟨v, rfl, r⟩ := one rs
    exact call_len_str pins s σ H _ us Q I rx ⟨_, by rw [r.str_inv], by rw [lim_eq]; exact hz, post.here sim (by rw [Rep])⟩
  · obtain ⟨ys, S1, g1, g2⟩ := bind_eq.mp hf
    obtain ⟨h1, e1⟩ := optR_ok.mp g1
    subst e1; cases g2
    obtain ⟨v, rfl, r⟩ := one rs
    obtain ⟨a, vs, rfl, q, t⟩ := sim.seq r h1
    exact call_len_seq pins s σ H _ us Q I rx ⟨a, vs, rfl, by rw [hK]; exact q, by rw [t.length]; exact post.here sim (by rw [Rep])⟩
  · cases hf
    obtain ⟨v, rfl, r⟩ := one rs
    exact call_abs pins s σ H _ us Q I rx ⟨_, by rw [r.int_inv], post.here sim (by rw [Rep])⟩
  · cases hf
    obtain ⟨v, rfl, r⟩ := one rs
    exact call_int1 pins s σ H _ us Q I rx (.inl ⟨_, by rw [r.int_inv], post.here sim (by rw [Rep])⟩)
  · cases hf
    obtain ⟨v, rfl, r⟩ := one rs
    exact call_int1 pins s σ H _ us Q I rx (.inr ⟨_, by rw [r.bl_inv], post.here sim (by rw [Rep])⟩)
  · obtain ⟨hz, hg⟩ := ite_bad.mp hf
    cases hg
    obtain ⟨v, rfl, r⟩ := one rs
    exact call_str_int pins s σ H _ us Q I rx ⟨_, by rw [r.int_inv], hz, post.here sim (by rw [Rep])⟩
  · -- list
    obtain ⟨ys, S1, g1, g2⟩ := bind_eq.mp hf
    obtain ⟨h1, e1⟩ := optR_ok.mp g1
    subst e1; cases g2
    obtain ⟨v, rfl, r⟩ := one rs
    obtain ⟨a, vs, rfl, q, t⟩ := sim.seq r h1
    exact call_list_of pins s σ H _ us Q I rx ⟨a, vs, rfl, by rw [hK]; exact q, fun l hl => post.lst sim t hl⟩
  · -- tuple
    obtain ⟨ys, S1, g1, g2⟩ := bind_eq.mp hf
    obtain ⟨h1, e1⟩ := optR_ok.mp g1
    subst e1; cases g2
    obtain ⟨v, rfl, r⟩ := one rs
    have r0 := r
    obtain ⟨a, vs, rfl, q, t⟩ := sim.seq r h1
    rcases q with q | q
    · exact call_tuple_of pins s σ H _ us Q I rx ⟨a, vs, rfl, .inl ⟨by rw [hK]; exact q, fun l hl => post.tup sim t hl⟩⟩
    · refine call_tuple_of pins s σ H _ us Q I rx ⟨a, vs, rfl, .inr ⟨by rw [hK]; exact q, ?_⟩⟩
      rename_i dd
      have key : Rep c G ι (.tup ys) (.ref a) := by
        cases dd with
        | tup zs => cases h1; exact r0
        | lst zs =>
          rw [Rep] at r0
          obtain ⟨a', vs', e, q', _⟩ := r0
          cases e
          obtain ⟨_, _, pl, _⟩ := I.list (by rw [hK]; exact sqL_sub q' sim.sub)
          obtain ⟨_, _, pt, _⟩ := I.tuple (by rw [hK]; exact q)
          obtain ⟨o, n, e1, c1, _⟩ := pl
          obtain ⟨o', e2, c2, _⟩ := pt
          rw [e1] at e2; cases e2
          rw [c1] at c2; exact absurd c2 (by decide)
        | ref n =>
          simp only [seqOf] at h1
          split at h1
          · rename_i zs hS
            rw [Rep] at r0
            obtain ⟨a', ha, e⟩ := r0
            cases e
            obtain ⟨ws, h3, _⟩ := sim.ent n _ a hS ha
            obtain ⟨_, _, pl, _⟩ := I.list (SqL.of h3)
            obtain ⟨_, _, pt, _⟩ := I.tuple (by rw [hK]; exact q)
            obtain ⟨o, n, e1, c1, _⟩ := pl
            obtain ⟨o', e2, c2, _⟩ := pt
            rw [e1] at e2; cases e2
            rw [c1] at c2; exact absurd c2 (by decide)
          · cases h1
        | _ => cases h1
      exact post.here sim key
  · cases hf
    rw [Reps] at rs
    obtain ⟨v, r', rfl, q, t⟩ := rs
    obtain ⟨w, rfl, q'⟩ : ∃ w, r' = [w] ∧ Rep c G ι _ w := by
      rw [Reps] at t
      obtain ⟨w, r2, rfl, q', t'⟩ := t
      rw [Reps] at t'
      exact ⟨w, by rw [t'], q'⟩
    exact call_min2 hc pins s σ H _ us Q I rx ⟨_, _, by rw [q.int_inv, q'.int_inv], post.here sim (by rw [Rep])⟩
  · cases hf
    rw [Reps] at rs
    obtain ⟨v, r', rfl, q, t⟩ := rs
    obtain ⟨w, rfl, q'⟩ : ∃ w, r' = [w] ∧ Rep c G ι _ w := by
      rw [Reps] at t
      obtain ⟨w, r2, rfl, q', t'⟩ := t
      rw [Reps] at t'
      exact ⟨w, by rw [t'], q'⟩
    exact call_max2 hc pins s σ H _ us Q I rx ⟨_, _, by rw [q.int_inv, q'.int_inv], post.here sim (by rw [Rep])⟩
  · -- min
    obtain ⟨ns, S1, g1, g2⟩ := bind_eq.mp hf
    obtain ⟨h1, e1⟩ := optR_ok.mp g1
    subst e1
    obtain ⟨v, rfl, r⟩ := one rs
    obtain ⟨ys, h2, h3⟩ := bind_some.mp h1
    obtain ⟨a, vs, rfl, q, t⟩ := sim.list r h2
    rw [intsOf_eq h3] at t
    rw [t.ints] at q
    cases ns with
    | nil => cases g2
    | cons n r =>
      cases g2
      refine cr_min hc pins s σ H _ us Q I rx ⟨a, n :: r, rfl, by rw [hK]; exact q, by simp, fun m hm hle => ?_⟩
      obtain ⟨s1, s2⟩ := minI_spec r n
      have : m = minI n r := by
        have := hle _ s1
        have := s2 m hm
        omega
      rw [this]; exact post.here sim (by rw [Rep])
  · obtain ⟨ns, S1, g1, g2⟩ := bind_eq.mp hf
    obtain ⟨h1, e1⟩ := optR_ok.mp g1
    subst e1
    obtain ⟨v, rfl, r⟩ := one rs
    obtain ⟨ys, h2, h3⟩ := bind_some.mp h1
    obtain ⟨a, vs, rfl, q, t⟩ := sim.list r h2
    rw [intsOf_eq h3] at t
    rw [t.ints] at q
    cases ns with
    | nil => cases g2
    | cons n r =>
      cases g2
      refine cr_max hc pins s σ H _ us Q I rx ⟨a, n :: r, rfl, by rw [hK]; exact q, by simp, fun m hm hle => ?_⟩
      obtain ⟨s1, s2⟩ := maxI_spec r n
      have : m = maxI n r := by
        have := hle _ s1
        have := s2 m hm
        omega
      rw [this]; exact post.here sim (by rw [Rep])
  · obtain ⟨ns, S1, g1, g2⟩ := bind_eq.mp hf
    obtain ⟨h1, e1⟩ := optR_ok.mp g1
    subst e1; cases g2
    obtain ⟨v, rfl, r⟩ := one rs
    obtain ⟨ys, h2, h3⟩ := bind_some.mp h1
    obtain ⟨a, vs, rfl, q, t⟩ := sim.list r h2
    rw [intsOf_eq h3] at t
    rw [t.ints] at q
    exact cr_sum hc pins s σ H _ us Q I rx ⟨a, ns, rfl, by rw [hK]; exact q, post.here sim (by rw [Rep])⟩
  · obtain ⟨ns, S1, g1, g2⟩ := bind_eq.mp hf
    obtain ⟨h1, e1⟩ := optR_ok.mp g1
    subst e1; cases g2
    obtain ⟨v, rfl, r⟩ := one rs
    obtain ⟨ys, h2, h3⟩ := bind_some.mp h1
    obtain ⟨a, vs, rfl, q, t⟩ := sim.list r h2
    rw [intsOf_eq h3] at t
    rw [t.ints] at q
    refine cr_sortedI pins s σ H _ us Q I rx ⟨a, ns, rfl, by rw [hK]; exact q, fun ns' p h4 h5 hp => ?_⟩
    have e : ns' = sortI ns := sorted_unique (h4.trans (sortI_perm ns).symm) h5 (sortI_sorted ns)
    subst e
    exact post.lst sim (Reps.of_ints _) hp
  · obtain ⟨ns, S1, g1, g2⟩ := bind_eq.mp hf
    obtain ⟨h1, e1⟩ := optR_ok.mp g1
    subst e1; cases g2
    obtain ⟨v, rfl, r⟩ := one rs
    obtain ⟨ys, h2, h3⟩ := bind_some.mp h1
    obtain ⟨a, vs, rfl, q, t⟩ := sim.list r h2
    rw [blsOf_eq h3] at t
    rw [t.bls] at q
    exact cr_any hc pins s σ H _ us Q I rx ⟨a, ns, rfl, by rw [hK]; exact q, post.here sim (by rw [Rep])⟩
  · obtain ⟨ns, S1, g1, g2⟩ := bind_eq.mp hf
    obtain ⟨h1, e1⟩ := optR_ok.mp g1
    subst e1; cases g2
    obtain ⟨v, rfl, r⟩ := one rs
    obtain ⟨ys, h2, h3⟩ := bind_some.mp h1
    obtain ⟨a, vs, rfl, q, t⟩ := sim.list r h2
    rw [blsOf_eq h3] at t
    rw [t.bls] at q
    exact cr_all hc pins s σ H _ us Q I rx ⟨a, ns, rfl, by rw [hK]; exact q, post.here sim (by rw [Rep])⟩
  · cases hb
  · cases hf
end
end Py
namespace Py
open PySem PySem.Spec PyProof.Rows L2
theorem Post.put {c : Cfg} {G : Hp} {ι : List Addr} {H : Hp} {d : D} {S : Sto} {Q : VK} {v : V} {n : Nat} {p : Addr} {u : HO} {o : O} (q : Post c G ι H d (S.set n o) Q) (s : Sim c G ι S H) (hn : ι[n]? = some p) (ho : ∀ H', H' p = some u → RepO c G ι H' p o) (r : Rep c G ι d v) : Q v (upd H p u) := by
  obtain ⟨e, s'⟩ := s.put hn ho
  exact q _ _ _ _ e s' (r.ext e)
section
variable {X : Cx} {c : Cfg} (hK : X.K = c.K)
def meId : Me → String
  | .append => "list.append"
  | .extend => "list.extend"
  | .pop => "list.pop"
  | .popAt => "list.pop"
  | .insert => "list.insert"
def rMe (c : Cfg) (m : Me) : V → List V → Hp → VK → Prop := fun v vs H Q => ∃ G ι S x ds d S', Sim c G ι S H ∧ Rep c G ι x v ∧ Reps c G ι ds vs ∧ meD m x ds S = .ok d S' ∧ Post c G ι H d S' Q
theorem rep_non {G : Hp} {ι : List Addr} : Rep c G ι .non .non := by rw [Rep]
theorem me_D {m : Me} : MtR X (meId m) (rMe c m) := by
  intro pins s σ H x xs v us Q I rx rxs h
  obtain ⟨G, ι, S, d, ds, r, S', sim, rd, rds, hf, post⟩ := h
  cases d with
  | ref n =>
    simp only [meD] at hf
    split at hf
    · rename_i ys hS
      rw [Rep] at rd
      obtain ⟨p, hp, rfl⟩ := rd
      obtain ⟨vs, hH, t⟩ := sim.ent n _ p hS hp
      split at hf
      · obtain ⟨hz, hg⟩ := ite_bad.mp hf
        cases hg
        rw [Reps] at rds
        obtain ⟨w, r', rfl, q, t'⟩ := rds
        rw [Reps] at t'
        subst t'
        exact mt_append pins s σ H _ _ v us Q I rx rxs ⟨p, vs, w, rfl, rfl, hH, by rw [lim_eq, t.length]; exact hz, post.put sim hp (fun H' e => ⟨_, e, t.append (Reps.one q)⟩) rep_non⟩
      · split at hf
        · rename_i zs hS2
          obtain ⟨hz, hg⟩ := ite_bad.mp hf
          cases hg
          rw [Reps] at rds
          obtain ⟨w, r', rfl, q, t'⟩ := rds
          rw [Reps] at t'
          subst t'
          rw [Rep] at q
          obtain ⟨b, hb, rfl⟩ := q
          obtain ⟨ws, hB, t2⟩ := sim.ent _ _ b hS2 hb
          exact mt_extend pins s σ H _ _ v us Q I rx rxs ⟨p, b, vs, ws, rfl, rfl, hH, hB, by rw [lim_eq, t.length, t2.length]; exact hz, post.put sim hp (fun H' e => ⟨_, e, t.append t2⟩) rep_non⟩
        · cases hf
      · obtain ⟨y, S1, g1, g2⟩ := bind_eq.mp hf
        obtain ⟨h1, e1⟩ := optR_ok.mp g1
        subst e1; cases g2
        rw [Reps] at rds
        subst rds
        obtain ⟨w, hw, rw'⟩ := t.get h1
        exact mt_pop pins s σ H _ _ v us Q I rx rxs ⟨p, vs, w, rfl, rfl, hH, by rw [t.length]; exact hw, post.put sim hp (fun H' e => ⟨_, e, t.dropLast⟩) rw'⟩
      · obtain ⟨hz, hg⟩ := ite_bad.mp hf
        obtain ⟨k, S1, g1, g2⟩ := bind_eq.mp hg
        obtain ⟨h1, e1⟩ := optR_ok.mp g1
        subst e1
        obtain ⟨y, S2, g3, g4⟩ := bind_eq.mp g2
        obtain ⟨h2, e2⟩ := optR_ok.mp g3
        subst e2; cases g4
        rw [Reps] at rds
        obtain ⟨w, r', rfl, q, t'⟩ := rds
        rw [Reps] at t'
        subst t'
        obtain ⟨z, hw, rw'⟩ := t.get h2
        rw [ixD_eq, ← t.length] at h1
        exact mt_popAt pins s σ H _ _ v us Q I rx rxs ⟨p, vs, _, k, z, rfl, by rw [q.int_inv], hH, hz.1, hz.2, (ixN_seq h1).1, hw, post.put sim hp (fun H' e => ⟨_, e, t.eraseIdx k⟩) rw'⟩
      · cases hf
    · cases hf
  | _ => cases hf

/-! ### o[i] = v -/
def PostU (c : Cfg) (G : Hp) (ι : List Addr) (H : Hp) (S' : Sto) (Q : Hp → Prop) : Prop := ∀ G' ι' H', Ext G ι H G' ι' H' → Sim c G' ι' S' H' → Q H'
def rSetD (c : Cfg) (f : D → D → D → Sto → R Unit) : TSet := fun o i v H Q => ∃ G ι S x y z S', Sim c G ι S H ∧ Rep c G ι x o ∧ Rep c G ι y i ∧ Rep c G ι z v ∧ f x y z S = .ok () S' ∧ PostU c G ι H S' Q
theorem set_D : PSet X (rSetD c setD) := by
  intro pins s σ H o i v ov iv u Q I ro ri rv h
  obtain ⟨G, ι, S, x, y, z, S', sim, rx, ry, rz, hf, post⟩ := h
  unfold setD at hf
  split at hf
  · rename_i n k
    split at hf
    · rename_i xs hS
      obtain ⟨j, S1, g1, g2⟩ := bind_eq.mp hf
      obtain ⟨h1, e1⟩ := optR_ok.mp g1
      subst e1; cases g2
      rw [Rep] at rx
      obtain ⟨p, hp, rfl⟩ := rx
      obtain ⟨vs, hH, t⟩ := sim.ent n _ p hS hp
      rw [ixD_eq, ← t.length] at h1
      obtain ⟨e, s'⟩ := sim.put (u := .lst (vs.set j v)) (o := .lst (xs.set j z)) hp fun H' e => ⟨_, e, Reps.set j t rz⟩
      exact set_list pins s σ H _ _ v ov iv u Q I ro ri rv ⟨p, vs, k, j, rfl, ry.int_inv, hH, h1, post _ _ _ e s'⟩
    · cases hf
  · cases hf

/-! ### fields -/
theorem fldIx_get : ∀ {fs : List Nat} {f k : Nat}, fldIx fs f = some k → fs[k]? = some f ∧ ∀ j, j < k → fs[j]? ≠ some f
  | [], _, _, h => by cases h
  | g :: r, f, k, h => by
    rw [fldIx] at h
    split at h
    · rename_i e
      cases h
      exact ⟨by simp [e], fun j hj => absurd hj (Nat.not_lt_zero j)⟩
    · rename_i e
      obtain ⟨k', h1, rfl⟩ := map_some'.mp h
      obtain ⟨h2, h3⟩ := fldIx_get h1
      refine ⟨by simpa using h2, fun j hj => ?_⟩
      cases j with
      | zero => simpa using e
      | succ j => simpa using h3 j (by omega)
/-- the names of the fields differ -/
def Cfg.inj (c : Cfg) : Prop := ∀ f g : Nat, c.nm f = c.nm g → f = g
theorem zip_lookup (hi : c.inj) : ∀ {fs : List Nat} {vs : List V} {f k : Nat} {v : V}, fldIx fs f = some k → vs[k]? = some v → ((fs.map c.nm).zip vs).lookup (c.nm f) = some v
  | [], _, _, _, _, h, _ => by cases h
  | g :: r, [], f, k, v, h, e => by simp at e
  | g :: r, w :: vs, f, k, v, h, e => by
    rw [fldIx] at h
    rw [List.map_cons, List.zip_cons_cons, List.lookup_cons]
    split at h
    · rename_i e1
      cases h
      have : (c.nm f == c.nm g) = true := by rw [e1]; simp
      rw [this]
      simpa using e
    · rename_i e1
      obtain ⟨k', h1, rfl⟩ := map_some'.mp h
      have : (c.nm f == c.nm g) = false := by
        rw [beq_eq_false_iff_ne]
        exact fun z => e1 (hi _ _ z).symm
      rw [this]
      exact zip_lookup hi h1 (by simpa using e)
theorem zip_lookup_none (hi : c.inj) : ∀ {fs : List Nat} {vs : List V} {f k : Nat}, fldIx fs f = some k → vs.length ≤ k → ((fs.map c.nm).zip vs).lookup (c.nm f) = none
  | [], _, _, _, h, _ => by cases h
  | g :: r, [], f, k, h, e => by simp
  | g :: r, w :: vs, f, k, h, e => by
    rw [fldIx] at h
    rw [List.map_cons, List.zip_cons_cons, List.lookup_cons]
    split at h
    · cases h; simp at e
    · rename_i e1
      obtain ⟨k', h1, rfl⟩ := map_some'.mp h
      have : (c.nm f == c.nm g) = false := by
        rw [beq_eq_false_iff_ne]
        exact fun z => e1 (hi _ _ z).symm
      rw [this]
      exact zip_lookup_none hi h1 (by simpa using e)
theorem putF_set (hi : c.inj) : ∀ {fs : List Nat} {vs : List V} {f k : Nat} {v : V}, fldIx fs f = some k → k < vs.length → vs.length ≤ fs.length → putF (c.nm f) v ((fs.map c.nm).zip vs) = (fs.map c.nm).zip (vs.set k v)
  | [], _, _, _, _, h, _, _ => by cases h
  | g :: r, [], f, k, v, h, e, _ => by simp at e
  | g :: r, w :: vs, f, k, v, h, e, l => by
    rw [fldIx] at h
    rw [List.map_cons, List.zip_cons_cons, putF]
    split at h
    · rename_i e1
      cases h
      rw [if_pos (by rw [e1])]
      rfl
    · rename_i e1
      obtain ⟨k', h1, rfl⟩ := map_some'.mp h
      rw [if_neg fun z => e1 (hi _ _ z), putF_set hi h1 (by simpa using e) (by simpa using l)]
      rfl
theorem putF_new (hi : c.inj) : ∀ {fs : List Nat} {vs : List V} {f : Nat} {v : V}, fldIx fs f = some vs.length → putF (c.nm f) v ((fs.map c.nm).zip vs) = (fs.map c.nm).zip (vs ++ [v])
  | [], _, _, _, h => by cases h
  | g :: r, [], f, v, h => by
    have := (fldIx_get h).1
    simp at this
    subst this
    simp [putF]
  | g :: r, w :: vs, f, v, h => by
    rw [fldIx] at h
    rw [List.map_cons, List.zip_cons_cons, putF]
    split at h
    · simp at h
    · rename_i e1
      obtain ⟨k', h1, e⟩ := map_some'.mp h
      have : k' = vs.length := by simpa using e
      subst this
      rw [if_neg fun z => e1 (hi _ _ z), putF_new hi h1]
      rfl
end
end Py
/-! Core syntax against the text's. -/
namespace Py
open PySem PySem.Spec PyProof.Rows L2

def ndb (x : Str) : Bool := !(x == ("__debug__" : Str)) && !(x == ("__classdict__" : Str))
def visB (sc : Scope) (x : Str) : Bool := match sc.names.lookup x with
  | some .local => true
  | some .cell => true
  | some .free => true
  | _ => false
def glB (sc : Scope) (x : Str) : Bool := match sc.names.lookup x with
  | some .globalImplicit => true
  | _ => false
/-- may be stored: a local; a cell where all cells are the def's own -/
def stoB (all : Bool) (sc : Scope) (x : Str) : Bool := match sc.names.lookup x with
  | some .local => true
  | some .cell => all
  | _ => false
def noStar : PySem.Expr → Bool
  | .Starred _ _ => false
  | _ => true
def noComp : PySem.Expr → Bool
  | .ListComp .. => false
  | .SetComp .. => false
  | .DictComp .. => false
  | _ => true
def noSlice : PySem.Expr → Bool
  | .Slice .. => false
  | _ => true
def noCall : PySem.Expr → Bool
  | .Call .. => false
  | _ => true
def noSetE : PySem.Expr → Bool
  | .Set .. => false
  | _ => true
def plainT : PySem.Expr → Bool
  | .BoolOp .. => false
  | .UnaryOp .Not _ _ => false
  | .IfExp .. => false
  | .Compare .. => false
  | _ => true
def biNm : Bi → Str
  | .len => "len"
  | .abs => "abs"
  | .int => "int"
  | .str => "str"
  | .list => "list"
  | .list0 => "list"
  | .tuple => "tuple"
  | .tuple0 => "tuple"
  | .min2 => "min"
  | .max2 => "max"
  | .min => "min"
  | .max => "max"
  | .sum => "sum"
  | .sorted => "sorted"
  | .any => "any"
  | .all => "all"
  | .isinst _ => "isinstance"
def meNm : Me → Str
  | .append => "append"
  | .extend => "extend"
  | .pop => "pop"
  | .popAt => "pop"
  | .insert => "insert"
def tyOk (T : String) : Bool := ["int", "bool", "str", "list", "tuple", "dict"].contains T
def chkT : List Str → Bool → Scope → List Nat → List PySem.Expr → Bool
  | N, all, sc, [], [] => true
  | N, all, sc, i :: is, .Name x _ :: es => decide (N[i]? = some x) && stoB all sc x && chkT N all sc is es
  | _, _, _, _, _ => false
def chkG (N : List Str) (all : Bool) (sc : Scope) (g : Tg) (e : PySem.Expr) : Bool := match g, e with
  | .nm i, .Name x _ => decide (N[i]? = some x) && stoB all sc x
  | .tp is, .Tuple es _ _ => chkT N all sc is es
  | _, _ => false
section
variable (c : Cst) (N : List Str)
mutual
def chkE : CE → Scope → PySem.Expr → Bool
  | .slot i, sc, e => (match e with
    | .Name x _ => decide (N[i]? = some x) && visB sc x && ndb x
    | _ => false)
  | .non, _, e => (match e with
    | .Constant .none _ _ => true
    | _ => false)
  | .bl b, _, e => (match e with
    | .Constant (.bool d) _ _ => b == d
    | _ => false)
  | .int i, _, e => (match e with
    | .Constant (.int j) _ _ => decide (i = j)
    | _ => false)
  | .str x, _, e => (match e with
    | .Constant (.str y) _ _ => decide (x = y)
    | _ => false)
  | .bin o a b, sc, e => (match e with
    | .BinOp x p y _ => decide (o = p) && chkE a sc x && chkE b sc y
    | _ => false)
  | .neg a, sc, e => (match e with
    | .UnaryOp .USub x _ => chkE a sc x
    | _ => false)
  | .inv a, sc, e => (match e with
    | .UnaryOp .Invert x _ => chkE a sc x
    | _ => false)
  | .cmp o a b, sc, e => (match e with
    | .Compare x [p] [y] _ => decide (o = p) && !behindInMarks o y && chkE a sc x && chkE b sc y
    | _ => false)
  | .chain o a b p d, sc, e => (match e with
    | .Compare x [o', p'] [y, z] _ => decide (o = o') && decide (p = p') && !lastMarks [o', p'] [y, z] && chkE a sc x && chkE b sc y && chkE d sc z
    | _ => false)
  | .and a b, sc, e => (match e with
    | .BoolOp .And [x, y] _ => chkE a sc x && chkE b sc y
    | .BoolOp .And (x :: y :: r) pos => chkE a sc x && chkE b sc (.BoolOp .And (y :: r) pos)
    | _ => false)
  | .or a b, sc, e => (match e with
    | .BoolOp .Or [x, y] _ => chkE a sc x && chkE b sc y
    | .BoolOp .Or (x :: y :: r) pos => chkE a sc x && chkE b sc (.BoolOp .Or (y :: r) pos)
    | _ => false)
  | .not a, sc, e => (match e with
    | .UnaryOp .Not x _ => chkE a sc x
    | _ => false)
  | .ife t a b, sc, e => (match e with
    | .IfExp z x y _ => chkQt t sc z && chkE a sc x && chkE b sc y
    | _ => false)
  | .tup es, sc, e => (match e with
    | .Tuple xs _ _ => chkEs es sc xs
    | _ => false)
  | .lst es, sc, e => (match e with
    | .List xs _ => chkEs es sc xs
    | _ => false)
  | .call f es, sc, e => (match e with
    | .Call (.Name x _) xs [] _ => c.isg f && decide (x = c.fnm f) && glB sc x && ndb x && chkEs es sc xs
    | _ => false)
  | .mk k es, sc, e => (match e with
    | .Call (.Name x _) xs [] _ => c.isc k && decide (x = c.cnm k) && glB sc x && ndb x && chkEs es sc xs
    | _ => false)
  | .bi b es, sc, e => (match b with
    | .isinst T => (match es, e with
      | .cons a .nil, .Call (.Name x _) [y, .Name z _] [] _ => decide (x = "isinstance") && glB sc x && decide (z = Str.ofString T) && glB sc z && tyOk T && noStar y && chkE a sc y
      | _, _ => false)
    | _ => (match es, e with
      | .cons _ _, .Call (.Name x _) xs [] _ => decide (x = biNm b) && glB sc x && chkEs es sc xs
      | _, _ => false))
  | .met m o es, sc, e => (match e with
    | .Call (.Attribute y name apos) xs [] cpos => decide (name = meNm m) && (apos.endLine == cpos.line) && noCall y && decide (xs.length < 20) && chkE o sc y && chkEs es sc xs
    | _ => false)
  | .om k m o es, sc, e => (match e with
    | .Call (.Attribute y name apos) xs [] cpos => c.ism k m && decide (name = c.mnm m) && (apos.endLine == cpos.line) && noCall y && decide (xs.length < 20) && chkE o sc y && chkEs es sc xs
    | _ => false)
  | .idx a i, sc, e => (match e with
    | .Subscript x y _ => noSlice y && chkE a sc x && chkE i sc y
    | _ => false)
  | .slc a lo hi, sc, e => (match e with
    | .Subscript x (.Slice l h none _) _ => chkE a sc x && chkO lo sc l && chkO hi sc h
    | _ => false)
  | .fld a f, sc, e => (match e with
    | .Attribute x name _ => decide (name = c.nm f) && noCall x && chkE a sc x
    | _ => false)
  | .comp a g it t own, sc, e => (match e with
    | .ListComp elt [⟨tg, iter, ifs, 0⟩] scope _ => blkC N sc scope own && noSetE iter && chkI it sc tg iter && chkG N false (relS scope sc) g tg && chkW g own && chkQ t (relS scope sc) ifs && chkE a (relS scope sc) elt
    | _ => false)
  | .frz a, sc, e => chkE a sc e
def chkQt : CT → Scope → PySem.Expr → Bool
  | .val a, sc, e => (match a with
    | .cmp .. => chkE a sc e
    | .chain .. => chkE a sc e
    | _ => plainT e && chkE a sc e)
  | .and a b, sc, e => (match e with
    | .BoolOp .And [x, y] _ => chkQt a sc x && chkQt b sc y
    | .BoolOp .And (x :: y :: r) pos => chkQt a sc x && chkQt b sc (.BoolOp .And (y :: r) pos)
    | _ => false)
  | .or a b, sc, e => (match e with
    | .BoolOp .Or [x, y] _ => chkQt a sc x && chkQt b sc y
    | .BoolOp .Or (x :: y :: r) pos => chkQt a sc x && chkQt b sc (.BoolOp .Or (y :: r) pos)
    | _ => false)
  | .not a, sc, e => (match e with
    | .UnaryOp .Not x _ => chkQt a sc x
    | _ => false)
def chkQ : CQ → Scope → List PySem.Expr → Bool
  | .none, _, es => (match es with
    | [] => true
    | _ => false)
  | .some t, sc, es => (match es with
    | [e] => chkQt t sc e
    | _ => false)
def chkEs : CEs → Scope → List PySem.Expr → Bool
  | .nil, _, es => (match es with
    | [] => true
    | _ => false)
  | .cons a as, sc, es => (match es with
    | e :: r => noStar e && chkE a sc e && chkEs as sc r
    | _ => false)
def chkO : CO → Scope → Option PySem.Expr → Bool
  | .none, _, e => (match e with
    | none => true
    | _ => false)
  | .some a, sc, e => (match e with
    | some e => chkE a sc e
    | _ => false)
def chkI : IT → Scope → PySem.Expr → PySem.Expr → Bool
  | .val a, sc, _, e => noSetE e && chkE a sc e
  | .rng a, sc, _, e => (match e with
    | .Call (.Name x _) [y] [] _ => decide (x = "range") && glB sc x && noStar y && chkE a sc y
    | _ => false)
  | .rng2 a b, sc, _, e => (match e with
    | .Call (.Name x _) [y, z] [] _ => decide (x = "range") && glB sc x && noStar y && noStar z && chkE a sc y && chkE b sc z
    | _ => false)
  | .enum a, sc, tg, e => (match tg, e with
    | .Tuple .., .Call (.Name x _) [y] [] _ => decide (x = "enumerate") && glB sc x && noStar y && chkE a sc y
    | _, _ => false)
  | .zip a b, sc, tg, e => (match tg, e with
    | .Tuple .., .Call (.Name x _) [y, z] [] _ => decide (x = "zip") && glB sc x && noStar y && noStar z && chkE a sc y && chkE b sc z
    | _, _ => false)
  | .rev a, sc, _, e => (match e with
    | .Call (.Name x _) [y] [] _ => decide (x = "reversed") && glB sc x && noStar y && chkE a sc y
    | _ => false)
/-- a comprehension's target stores its own names alone -/
def chkW : Tg → List (Str × Nat) → Bool
  | .nm i, own => (own.map (·.2)).contains i
  | .tp is, own => is.all fun i => (own.map (·.2)).contains i
end
mutual
def chkS : CS → Scope → PySem.Stmt → Bool
  | .pass, _, s => (match s with
    | .Pass _ => true
    | .Expr (.Constant (.str _) _ _) _ => true
    | _ => false)
  | .ret a, sc, s => (match s with
    | .Return (some e) _ => chkE c N a sc e
    | _ => false)
  | .retN, _, s => (match s with
    | .Return none _ => true
    | _ => false)
  | .expr a, sc, s => (match s with
    | .Expr e _ => noComp e && chkE c N a sc e
    | _ => false)
  | .set i a, sc, s => (match s with
    | .Assign [.Name x py] e spos => decide (N[i]? = some x) && stoB true sc x && (noComp e || (match sc.names.lookup x with
        | some .local => (match e with
          | .ListComp _ _ scope pos => (py.line == pos.line) && !(scope.names.any fun (n, k) => n == x && (k == .local || k == .cell))
          | _ => false)
        | _ => true)) && chkE c N a sc e
    | _ => false)
  | .tset is a, sc, s => (match s with
    | .Assign [.Tuple es k pos] e _ => (match e with
      | .Tuple .. => false
      | .List .. => false
      | _ => noComp e && chkT N true sc is es && chkE c N a sc e)
    | _ => false)
  | .sub o i a, sc, s => (match s with
    | .Assign [.Subscript x y _] e _ => noComp e && noSlice y && chkE c N o sc x && chkE c N i sc y && chkE c N a sc e
    | _ => false)
  | .sfld o f a, sc, s => (match s with
    | .Assign [.Attribute x name _] e _ => noComp e && decide (name = c.nm f) && chkE c N o sc x && chkE c N a sc e
    | _ => false)
  | .aug i p a, sc, s => (match s with
    | .AugAssign (.Name x _) q e _ => decide (p = q) && decide (N[i]? = some x) && stoB true sc x && chkE c N a sc e
    | _ => false)
  | .ite t a b, sc, s => (match s with
    | .If e x y _ => chkQt c N t sc e && chkB a sc x && chkB b sc y
    | _ => false)
  | .for_ g it b, sc, s => (match s with
    | .For tg e x [] _ => noSetE e && chkI c N it sc tg e && chkG N true sc g tg && chkB b sc x
    | _ => false)
  | .whl _ t b, sc, s => (match s with
    | .While e x [] _ => chkQt c N t sc e && chkB b sc x
    | _ => false)
  | .brk, _, s => (match s with
    | .Break _ => true
    | _ => false)
  | .cnt, _, s => (match s with
    | .Continue _ => true
    | _ => false)
def chkB : CB → Scope → List PySem.Stmt → Bool
  | .nil, _, ss => (match ss with
    | [] => true
    | _ => false)
  | .cons a b, sc, ss => (match ss with
    | s :: r => chkS a sc s && chkB b sc r
    | _ => false)
end
end
end Py
/-! The text does what the core says. -/
namespace Py
open PySem PySem.Spec PyProof.Rows L2

/-! ### readings -/
section
variable (c : Cfg)
def PostB (G : Hp) (ι : List Addr) (H : Hp) (S' : Sto) (Q : Hp → Prop) : Prop := ∀ G' ι' H', Ext G ι H G' ι' H' → Sim c G' ι' S' H' → Q H'
def PostA (G : Hp) (ι : List Addr) (H : Hp) (ds : List D) (S' : Sto) (Q : List V → Hp → Prop) : Prop := ∀ vs G' ι' H', Ext G ι H G' ι' H' → Sim c G' ι' S' H' → Reps c G' ι' ds vs → Q vs H'
def tE (f : Sl → Sto → R D) : TE := fun σ H Q => ∃ G ι S σd d S', Sim c G ι S H ∧ RepSl c G ι σ σd ∧ f σd S = .ok d S' ∧ Post c G ι H d S' Q
def tT (f : Sl → Sto → R Bool) : TT := fun σ H Q => ∃ G ι S σd b S', Sim c G ι S H ∧ RepSl c G ι σ σd ∧ f σd S = .ok b S' ∧ PostB c G ι H S' (Q b)
def tA (f : Sl → Sto → R (List D)) : TA := fun σ H Q => ∃ G ι S σd ds S', Sim c G ι S H ∧ RepSl c G ι σ σd ∧ f σd S = .ok ds S' ∧ PostA c G ι H ds S' Q
def tO (f : Sl → Sto → R (Option Int)) : TO := fun σ H Q => ∃ G ι S σd o S', Sim c G ι S H ∧ RepSl c G ι σ σd ∧ f σd S = .ok o S' ∧ PostB c G ι H S' (Q o)
/-- J walks what iv says, from the heaps that extend G, ι on -/
def IVok (G : Hp) (ι : List Addr) (iv : IV) (J : It) : Prop := ∀ G1 ι1 S1 H1 i, (∀ a o, G a = some o → G1 a = some o) → (∃ k, ι1 = ι ++ k) → Sim c G1 ι1 S1 H1 →
  (∀ x, nxt iv i S1 = some (some x) → J.go i H1 ∧ ∀ v H2, J.yld i H1 v H2 → ∃ G2, Ext G1 ι1 H1 G2 ι1 H2 ∧ Sim c G2 ι1 S1 H2 ∧ Rep c G2 ι1 x v) ∧ (nxt iv i S1 = some none → J.stop i H1)
def tI (f : Sl → Sto → R IV) : TI := fun σ H Q => ∃ G ι S σd iv S', Sim c G ι S H ∧ RepSl c G ι σ σd ∧ f σd S = .ok iv S' ∧ ∀ J G' ι' H', Ext G ι H G' ι' H' → Sim c G' ι' S' H' → IVok c G' ι' iv J → Q J H'
def PostF (G : Hp) (ι : List Addr) (H : Hp) (fl : Fl) (S' : Sto) (D : Ends) : Prop := match fl with
  | .next σd' => ∀ σ' G' ι' H', Ext G ι H G' ι' H' → Sim c G' ι' S' H' → RepSl c G' ι' σ' σd' → D.nx σ' H'
  | .brk σd' => ∀ σ' G' ι' H', Ext G ι H G' ι' H' → Sim c G' ι' S' H' → RepSl c G' ι' σ' σd' → D.bk σ' H'
  | .cnt σd' => ∀ σ' G' ι' H', Ext G ι H G' ι' H' → Sim c G' ι' S' H' → RepSl c G' ι' σ' σd' → D.ct σ' H'
  | .ret d => ∀ v G' ι' H', Ext G ι H G' ι' H' → Sim c G' ι' S' H' → Rep c G' ι' d v → D.rt v H'
def tS (f : Sl → Sto → R Fl) : TS := fun D σ H => ∃ G ι S σd fl S', Sim c G ι S H ∧ RepSl c G ι σ σd ∧ f σd S = .ok fl S' ∧ PostF c G ι H fl S' D
end
section
variable {c : Cfg} {G G1 : Hp} {ι ι1 : List Addr} {H H1 : Hp} {S' : Sto}
theorem PostB.mono {Q : Hp → Prop} (p : PostB c G ι H S' Q) (e : Ext G ι H G1 ι1 H1) : PostB c G1 ι1 H1 S' Q := fun G' ι' H' x s => p G' ι' H' (e.trans x) s
theorem PostA.mono {ds : List D} {Q : List V → Hp → Prop} (p : PostA c G ι H ds S' Q) (e : Ext G ι H G1 ι1 H1) : PostA c G1 ι1 H1 ds S' Q := fun vs G' ι' H' x s r => p vs G' ι' H' (e.trans x) s r
theorem PostF.mono {fl : Fl} {D : Ends} (p : PostF c G ι H fl S' D) (e : Ext G ι H G1 ι1 H1) : PostF c G1 ι1 H1 fl S' D := by
  cases fl with
  | next σ => exact fun a G' ι' H' x s r => p a G' ι' H' (e.trans x) s r
  | brk σ => exact fun a G' ι' H' x s r => p a G' ι' H' (e.trans x) s r
  | cnt σ => exact fun a G' ι' H' x s r => p a G' ι' H' (e.trans x) s r
  | ret d => exact fun a G' ι' H' x s r => p a G' ι' H' (e.trans x) s r
end
/-! ### what is known of the place -/
/-- a def's promise by its meaning -/
def spG (c : Cfg) (g : List D → Sto → R D) : Sp := fun vs H Q _ => ∃ G ι S ds d S', Sim c G ι S H ∧ Reps c G ι ds vs ∧ g ds S = .ok d S' ∧ Post c G ι H d S' Q
def FnFact (c : Cfg) (Γ : Gm) (X : Cx) (n : Nat) (a : Addr) (f : Nat) : Prop := ∃ fd ps, Binds X.K fd ps [] ∧ FnOk X.prog X.w X.K X.mg X.base CX0 n a fd ps (spG c (Γ f))
/-- the built-in names that the core uses: no def of the module has one -/
def bnames : List Str := ["len", "abs", "int", "str", "list", "tuple", "min", "max", "sum", "sorted", "any", "all", "isinstance", "range", "enumerate", "zip", "reversed", "bool", "dict"]
structure Here (c : Cfg) (Γ : Gm) (n : Nat) (N : List Str) (sc : Scope) (all : Bool) (X : Cx) : Prop where
  hK : X.K = c.K
  calm : X.calm = true
  hN : X.N = N
  nd : N.Nodup
  hsc : X.env.scope = sc
  hall : all = true → ∀ x, X.fn x = true
  room : Room (n + 1) X.A
  no : X.xe = fun _ _ => False
  blt : ∀ x ∈ bnames, X.mg x = none
  fn : ∀ f : Nat, c.isg f = true → ∃ a, X.mg (c.fnm f) = some (.ref a) ∧ PySem.W.keepIn X.K (.ref a) = true ∧ FnFact c Γ X n a f
  ini : ∀ k : Nat, c.isc k = true → ∃ a, X.mg (c.cnm k) = some (.ref (c.CA k)) ∧ Mk X.K (c.CA k) a ∧ FnFact c Γ X n a (c.T.init k)
  mth : ∀ k m : Nat, c.ism k m = true → ∃ a, Cls X.K (c.CA k) ∧ Meth X.K (c.CA k) (c.mnm m) a ∧ (∀ f ∈ c.T.flds k, c.nm f ≠ c.mnm m) ∧ FnFact c Γ X n a (c.T.mth k m)
  cls : ∀ k f : Nat, fldIx (c.T.flds k) f ≠ none → Cls X.K (c.CA k) ∧ NoAttr X.K (c.CA k) (c.nm f)
  inj : c.inj
section
variable {c : Cfg} {Γ : Gm} {n : Nat} {N : List Str} {sc : Scope} {all : Bool} {X : Cx} (W : Here c Γ n N sc all X)
include W
theorem Here.units : X.A.units + 65 < cLine := by have := W.room.un; omega
theorem Here.gl {x : Str} (h : glB sc x = true) : Gl X x := by
  unfold glB at h
  split at h
  · rename_i e
    show X.env.scope.names.lookup x = _
    rw [W.hsc]; exact e
  · cases h
theorem Here.vis {x : Str} (h : visB sc x = true) : Vis X.env.scope x := by
  unfold visB at h
  rw [W.hsc]
  split at h
  · rename_i e; exact .inl e
  · rename_i e; exact .inr (.inl e)
  · rename_i e; exact .inr (.inr e)
  · cases h
theorem Here.sto {x : Str} (h : stoB all sc x = true) : Loc X.env.scope x ∧ (X.fn x = true ∨ X.env.scope.names.lookup x = some .local) := by
  unfold stoB at h
  rw [W.hsc]
  split at h
  · rename_i e; exact ⟨.inl e, .inr e⟩
  · rename_i e; exact ⟨.inr e, .inl (W.hall h x)⟩
  · cases h
theorem Here.blk (s : Shared) (H : Hp) (scope : Scope) (C : Addr) (cl : List (Str × Addr)) (fp : List Addr) : Here c Γ n N (relS scope sc) false (X.blk s H scope (compEnvC scope cl C X.env) fp) := by
  refine ⟨W.hK, W.calm, W.hN, W.nd, ?_, fun h => Bool.noConfusion h, W.room, rfl, W.blt, W.fn, W.ini, W.mth, W.cls, W.inj⟩
  rw [← W.hsc]; rfl
end
theorem ndb1 {x : Str} (h : ndb x = true) : (x == ("__debug__" : Str)) = false := by
  unfold ndb at h
  rw [Bool.and_eq_true] at h
  simpa using h.1
theorem ndb2 {x : Str} (h : ndb x = true) : (x == ("__classdict__" : Str)) = false := by
  unfold ndb at h
  rw [Bool.and_eq_true] at h
  simpa using h.2
theorem star_cons {e : PySem.Expr} {es : List PySem.Expr} {env : Env} (h : noStar e = true) : starEach (e :: es) env = (false, eval e env) :: starEach es env := by
  cases e <;> first
    | rfl
    | (exact absurd h (by simp [noStar]))
theorem noStars : ∀ {cs : CEs} {c : Cfg} {N : List Str} {sc : Scope} {es : List PySem.Expr} {env : Env} (pos : Pos), chkEs c.toCst N cs sc es = true → (backTo pos (starEach es env)).any (·.1) = false
  | .nil, c, N, sc, es, env, pos, h => by
    cases es with
    | nil => rfl
    | cons _ _ => simp [chkEs] at h
  | .cons a as, c, N, sc, es, env, pos, h => by
    cases es with
    | nil => simp [chkEs] at h
    | cons e r =>
      simp only [chkEs, Bool.and_eq_true] at h
      rw [star_cons h.1.1]
      show (false || (backTo pos (starEach r env)).any (·.1)) = false
      rw [noStars pos h.2]; rfl
theorem swaps_no {e : PySem.Expr} {t : Option PySem.Expr} {l : Nat} {env : Env} (h : noComp e = true) : swapsWith e t l env = pure false := by
  cases e <;> first
    | rfl
    | (exact absurd h (by simp [noComp]))
theorem setE_no {e : PySem.Expr} {env : Env} (h : noSetE e = true) : ∀ x, foldedSetIterable e env x = pure x := by
  intro x
  cases e <;> first
    | rfl
    | (exact absurd h (by simp [noSetE]))
theorem call_no {e : PySem.Expr} {f : Str} {env : Env} {w : Sem Value} (h : noCall e = true) : attributeBase e f env w = w := by
  cases e <;> first
    | rfl
    | (exact absurd h (by simp [noCall]))
theorem plain_no {e : PySem.Expr} (h : noSlice e = true) : PlainIx e := by
  intro o i
  cases e <;> first
    | rfl
    | (exact absurd h (by simp [noSlice]))
theorem fld_mem : ∀ {fs : List Nat} {f k : Nat}, fldIx fs f = some k → fldIx fs f ≠ none := by
  intro fs f k h; rw [h]; simp

section
variable {c : Cfg} {Γ : Gm} {n : Nat} {N : List Str}
/-- a name -/
theorem s_slot {sc : Scope} {all : Bool} {X : Cx} (W : Here c Γ n N sc all X) {i : Nat} {x : Str} {pos : Pos} (h1 : N[i]? = some x) (h2 : visB sc x = true) (h3 : ndb x = true) : PE X (.Name x pos) (tE c (evE c.T Γ (.slot i))) := by
  refine ⟨fun pins s σ H Q I h => ?_⟩
  obtain ⟨G, ι, S, σd, d, S', sim, rs, hf, post⟩ := h
  simp only [evE] at hf
  split at hf
  · rename_i d' e
    cases hf
    obtain ⟨v, ev, r⟩ := rs.2 i d e
    exact (pe_var (by rw [W.hN]; exact h1) (W.vis h2) (ndb1 h3) (ndb2 h3)).run pins s σ H Q I ⟨v, ev, post.here sim r⟩
  · cases hf
theorem s_cst {X : Cx} {e : PySem.Expr} {v : V} {d : D} {f : Sl → Sto → R D} (h : PE X e (tC v)) (hf : ∀ σ S, f σ S = .ok d S) (hr : ∀ G ι, Rep c G ι d v) : PE X e (tE c f) := by
  refine ⟨fun pins s σ H Q I q => ?_⟩
  obtain ⟨G, ι, S, σd, d', S', sim, rs, e1, post⟩ := q
  rw [hf] at e1
  cases e1
  exact h.run pins s σ H Q I (post.here sim (hr G ι))
/-- two operands -/
theorem s_two {fa fb : Sl → Sto → R D} {g : F2} {σ : L2.St} {H : Hp} {Q : VK} (h : tE c (fun σ S => (fa σ S).bind fun x S => (fb σ S).bind fun y S => g x y S) σ H Q) : tOp (rD2 c g) (tE c fa) (tE c fb) σ H Q := by
  obtain ⟨G, ι, S, σd, d, S', sim, rs, hf, post⟩ := h
  obtain ⟨x, S1, h1, hf⟩ := bind_eq.mp hf
  obtain ⟨y, S2, h2, hf⟩ := bind_eq.mp hf
  refine ⟨G, ι, S, σd, x, S1, sim, rs, h1, fun v G1 ι1 H1 e1 s1 r1 => ?_⟩
  refine ⟨G1, ι1, S1, σd, y, S2, s1, rs.ext e1, h2, fun w G2 ι2 H2 e2 s2 r2 => ?_⟩
  exact ⟨G2, ι2, S2, x, y, d, S', s2, r1.ext e2, r2, hf, post.mono (e1.trans e2)⟩
theorem PE.imp {X : Cx} {e : PySem.Expr} {t t' : TE} (h : PE X e t) (hi : ∀ σ H Q, t' σ H Q → t σ H Q) : PE X e t' := ⟨fun pins s σ H Q I q => h.run pins s σ H Q I (hi σ H Q q)⟩
theorem PT.imp {X : Cx} {e : PySem.Expr} {t t' : TT} (h : PT X e t) (hi : ∀ σ H Q, t' σ H Q → t σ H Q) : PT X e t' := ⟨fun pins s σ H Q I q => h.run pins s σ H Q I (hi σ H Q q)⟩
theorem PS.imp {X : Cx} {e : PySem.Stmt} {t t' : TS} (h : PS X e t) (hi : ∀ D σ H, t' D σ H → t D σ H) : PS X e t' := ⟨fun pins s σ H D I q => h.run pins s σ H D I (hi D σ H q)⟩
theorem PSs.imp {X : Cx} {e : List PySem.Stmt} {t t' : TS} (h : PSs X e t) (hi : ∀ D σ H, t' D σ H → t D σ H) : PSs X e t' := ⟨fun pins s σ H D I q => h.run pins s σ H D I (hi D σ H q)⟩
/-- one operand, then a step on values -/
theorem s_then {fa : Sl → Sto → R D} {g : D → Sto → R D} {σ : L2.St} {H : Hp} {Q : VK} (h : tE c (fun σ S => (fa σ S).bind g) σ H Q) : tE c fa σ H fun v H1 => rD1 c g v H1 Q := by
  obtain ⟨G, ι, S, σd, d, S', sim, rs, hf, post⟩ := h
  obtain ⟨x, S1, h1, hf⟩ := bind_eq.mp hf
  exact ⟨G, ι, S, σd, x, S1, sim, rs, h1, fun v G1 ι1 H1 e1 s1 r1 => ⟨G1, ι1, S1, x, d, S', s1, r1, hf, post.mono e1⟩⟩
end
end Py
/-! What was made becomes data by value. -/
namespace Py
open PySem PySem.Spec PyProof.Rows L2
section
variable {c : Cfg} {G G1 G2 : Hp} {ι ι1 : List Addr} {H H1 : Hp} {S S1 S2 : Sto}
/-- an address that is neither by value nor an entry -/
theorem Sim.side (s : Sim c G ι S H) {p : Addr} {o : HO} (hg : G p = none) (hi : p ∉ ι) : Sim c G ι S (upd H p o) := by
  refine ⟨fun a u q => ?_, s.len, s.nd, s.off, fun n u a h1 h2 => ?_⟩
  · rw [upd_ne (show a ≠ p from fun e => by rw [e, hg] at q; cases q)]; exact s.sub a u q
  · have m : a ∈ ι := List.mem_of_getElem? h2
    exact (s.ent n u a h1 h2).ext' (fun _ _ q => q) ⟨[], by simp⟩ (upd_ne (show a ≠ p from fun e => hi (e ▸ m)))
theorem Ext.side (e : Ext G ι H G1 ι1 H1) {p : Addr} {o : HO} (h : H p = none) : Ext G ι H G1 ι1 (upd H1 p o) := by
  refine ⟨e.g, e.i, fun a u q n => ?_, e.gn, e.inn, fun a q => ?_⟩
  · rw [upd_ne (show a ≠ p from fun z => by rw [z, h] at q; cases q)]; exact e.fr a u q n
  · by_cases z : a = p
    · rw [z, upd_same]; simp
    · rw [upd_ne z]; exact e.al a q
/-- refs that were good before are good without the new entries -/
theorem drop_at {l : List Addr} {k : List Addr} (nd : (l ++ k).Nodup) {n : Nat} {a : Addr} (h : (l ++ k)[n]? = some a) (hn : l.length ≤ n) : a ∈ k ∧ a ∉ l := by
  rw [List.getElem?_append_right hn] at h
  have m := List.mem_of_getElem? h
  refine ⟨m, fun m' => ?_⟩
  exact (List.nodup_append.mp nd).2.2 a m' a m rfl
mutual
theorem rep_scope (g : ∀ a o, G1 a = some o → G2 a = some o) {k : List Addr} (hk : ι1 = ι ++ k) : ∀ (d : D) (v0 v : V), Rep c G ι d v0 → Rep c G1 ι1 d v → Rep c G2 ι d v
  | .non, _, v, _, h => by rw [Rep] at h ⊢; exact h
  | .bl _, _, v, _, h => by rw [Rep] at h ⊢; exact h
  | .int _, _, v, _, h => by rw [Rep] at h ⊢; exact h
  | .str _, _, v, _, h => by rw [Rep] at h ⊢; exact h
  | .tup ds, v0, v, h0, h => by
    rw [Rep] at h h0 ⊢
    obtain ⟨_, vs0, _, _, r0⟩ := h0
    obtain ⟨a, vs, e, q, r⟩ := h
    exact ⟨a, vs, e, sqT_sub q g, reps_scope g hk ds vs0 vs r0 r⟩
  | .lst ds, v0, v, h0, h => by
    rw [Rep] at h h0 ⊢
    obtain ⟨_, vs0, _, _, r0⟩ := h0
    obtain ⟨a, vs, e, q, r⟩ := h
    exact ⟨a, vs, e, sqL_sub q g, reps_scope g hk ds vs0 vs r0 r⟩
  | .obj j ds, v0, v, h0, h => by
    rw [Rep] at h h0 ⊢
    obtain ⟨_, _, vs0, _, _, r0, _⟩ := h0
    obtain ⟨a, dx, vs, e, q, r, l⟩ := h
    exact ⟨a, dx, vs, e, g _ _ q, reps_scope g hk ds vs0 vs r0 r, l⟩
  | .ref n, v0, v, h0, h => by
    rw [Rep] at h h0 ⊢
    obtain ⟨a0, e0, _⟩ := h0
    obtain ⟨a, e, r⟩ := h
    have hl := (List.getElem?_eq_some_iff.mp e0).1
    rw [hk, List.getElem?_append_left hl] at e
    exact ⟨a, e, r⟩
theorem reps_scope (g : ∀ a o, G1 a = some o → G2 a = some o) {k : List Addr} (hk : ι1 = ι ++ k) : ∀ (d : List D) (v0 v : List V), Reps c G ι d v0 → Reps c G1 ι1 d v → Reps c G2 ι d v
  | [], _, v, _, h => by rw [Reps] at h ⊢; exact h
  | d :: ds, v0, v, h0, h => by
    rw [Reps] at h h0 ⊢
    obtain ⟨_, _, _, q0, t0⟩ := h0
    obtain ⟨w, r, e, q, t⟩ := h
    exact ⟨w, r, e, rep_scope g hk d _ w q0 q, reps_scope g hk ds _ r t0 t⟩
end
/-- the new entries but x, as they stand, are by value -/
def froz (G1 : Hp) (H1 : Hp) (k : List Addr) (x : Option Addr) : Hp := fun a => if a ∈ k ∧ x ≠ some a then H1 a else G1 a
theorem froz_g (s1 : Sim c G1 (ι ++ k) S1 H1) {x : Option Addr} : ∀ a o, G1 a = some o → froz G1 H1 k x a = some o := by
  intro a o h
  unfold froz
  split
  · exact s1.sub a o h
  · exact h
theorem froz_sub (s1 : Sim c G1 (ι ++ k) S1 H1) {x : Option Addr} : ∀ a o, froz G1 H1 k x a = some o → H1 a = some o := by
  intro a o h
  unfold froz at h
  split at h
  · exact h
  · exact s1.sub a o h
mutual
theorem rep_map (g : ∀ a o, G1 a = some o → G2 a = some o) (f : Nat → Option D) (hf : ∀ n d v, f n = some d → Rep c G1 ι1 (.ref n) v → Rep c G2 ι d v) : ∀ (d d' : D) (v : V), D.mapR f d = some d' → Rep c G1 ι1 d v → Rep c G2 ι d' v
  | .non, d', v, e, h => by cases e; rw [Rep] at h ⊢; exact h
  | .bl _, d', v, e, h => by cases e; rw [Rep] at h ⊢; exact h
  | .int _, d', v, e, h => by cases e; rw [Rep] at h ⊢; exact h
  | .str _, d', v, e, h => by cases e; rw [Rep] at h ⊢; exact h
  | .ref n, d', v, e, h => hf n d' v e h
  | .tup ds, d', v, e, h => by
    rw [D.mapR] at e
    obtain ⟨b, h1, rfl⟩ := map_some'.mp e
    rw [Rep] at h ⊢
    obtain ⟨a, vs, e, q, r⟩ := h
    exact ⟨a, vs, e, sqT_sub q g, reps_map g f hf ds b vs h1 r⟩
  | .lst ds, d', v, e, h => by
    rw [D.mapR] at e
    obtain ⟨b, h1, rfl⟩ := map_some'.mp e
    rw [Rep] at h ⊢
    obtain ⟨a, vs, e, q, r⟩ := h
    exact ⟨a, vs, e, sqL_sub q g, reps_map g f hf ds b vs h1 r⟩
  | .obj j ds, d', v, e, h => by
    rw [D.mapR] at e
    obtain ⟨b, h1, rfl⟩ := map_some'.mp e
    rw [Rep] at h ⊢
    obtain ⟨a, dx, vs, e, q, r, l⟩ := h
    exact ⟨a, dx, vs, e, g _ _ q, reps_map g f hf ds b vs h1 r, l⟩
theorem reps_map (g : ∀ a o, G1 a = some o → G2 a = some o) (f : Nat → Option D) (hf : ∀ n d v, f n = some d → Rep c G1 ι1 (.ref n) v → Rep c G2 ι d v) : ∀ (d d' : List D) (v : List V), D.mapRs f d = some d' → Reps c G1 ι1 d v → Reps c G2 ι d' v
  | [], d', v, e, h => by rw [D.mapRs] at e; cases e; rw [Reps] at h ⊢; exact h
  | d :: ds, d', v, e, h => by
    rw [D.mapRs] at e
    obtain ⟨x, h1, h2⟩ := bind_some.mp e
    obtain ⟨xs, h3, rfl⟩ := map_some'.mp h2
    rw [Reps] at h ⊢
    obtain ⟨w, r, e, q, t⟩ := h
    exact ⟨w, r, e, rep_map g f hf d x w h1 q, reps_map g f hf ds xs r h3 t⟩
end
theorem repO_map (g : ∀ a o, G1 a = some o → G2 a = some o) (f : Nat → Option D) (hf : ∀ n d v, f n = some d → Rep c G1 ι1 (.ref n) v → Rep c G2 ι d v) {o o' : O} {a : Addr} (e : O.mapR f o = some o') (h : RepO c G1 ι1 H1 a o) : RepO c G2 ι H1 a o' := by
  cases o with
  | lst ds =>
    obtain ⟨b, h1, rfl⟩ := map_some'.mp e
    obtain ⟨vs, h2, t⟩ := h
    exact ⟨vs, h2, reps_map g f hf ds b vs h1 t⟩
  | ins j ds =>
    obtain ⟨b, h1, rfl⟩ := map_some'.mp e
    obtain ⟨dx, vs, h2, t, l⟩ := h
    exact ⟨dx, vs, h2, reps_map g f hf ds b vs h1 t, l⟩
/-- the entries by value -/
theorem rd_ok {k : List Addr} (s1 : Sim c G1 (ι ++ k) S1 H1) (x : Nat) : ∀ (f n : Nat) (d : D) (v : V), rd S1 ι.length x f n = some d → Rep c G1 (ι ++ k) (.ref n) v → Rep c (froz G1 H1 k (ι ++ k)[x]?) ι d v
  | 0, n, d, v, h, r => by
    rw [rd, Option.ite_none_right_eq_some] at h
    obtain ⟨hn, h⟩ := h
    cases h
    rw [Rep] at r ⊢
    obtain ⟨a, e, rfl⟩ := r
    rw [List.getElem?_append_left hn] at e
    exact ⟨a, e, rfl⟩
  | f + 1, n, d, v, h, r => by
    rw [rd] at h
    split at h
    · rename_i hn
      cases h
      rw [Rep] at r ⊢
      obtain ⟨a, e, rfl⟩ := r
      rw [List.getElem?_append_left hn] at e
      exact ⟨a, e, rfl⟩
    · rename_i hn
      split at h
      · cases h
      · rename_i hx
        rw [Rep] at r
        obtain ⟨a, e, rfl⟩ := r
        obtain ⟨m1, m2⟩ := drop_at s1.nd e (by omega)
        have ax : (ι ++ k)[x]? ≠ some a := fun q => by
          obtain ⟨l1, e1⟩ := List.getElem?_eq_some_iff.mp e
          obtain ⟨l2, e2⟩ := List.getElem?_eq_some_iff.mp q
          exact hx ((List.getElem_inj s1.nd).mp (e1.trans e2.symm))
        have at_ : froz G1 H1 k (ι ++ k)[x]? a = H1 a := by
          unfold froz
          rw [if_pos ⟨m1, ax⟩]
        split at h
        · rename_i xs hS
          obtain ⟨ys, h1, rfl⟩ := map_some'.mp h
          obtain ⟨vs, h2, t⟩ := s1.ent n _ a hS e
          rw [Rep]
          exact ⟨a, vs, rfl, SqL.of (by rw [at_]; exact h2), reps_map (froz_g s1) _ (rd_ok s1 x f) xs ys vs h1 t⟩
        · rename_i j xs hS
          obtain ⟨ys, h1, rfl⟩ := map_some'.mp h
          obtain ⟨dx, vs, h2, t, l⟩ := s1.ent n _ a hS e
          rw [Rep]
          exact ⟨a, dx, vs, rfl, by rw [at_]; exact h2, reps_map (froz_g s1) _ (rd_ok s1 x f) xs ys vs h1 t, l⟩
        · cases h
theorem conv_get {f : Nat → Option D} : ∀ {S S' R : Sto}, conv f S S' = some R → R.length = S.length ∧ ∀ (n : Nat) (o : O), R[n]? = some o → ∃ o0 o1, S[n]? = some o0 ∧ S'[n]? = some o1 ∧ ((o1 = o0 ∧ o = o0) ∨ O.mapR f o1 = some o)
  | [], S', R, h => by
    rw [conv] at h; cases h
    exact ⟨rfl, fun n o e => by simp at e⟩
  | o :: S, [], R, h => by rw [conv] at h; cases h
  | o :: S, o' :: S', R, h => by
    rw [conv] at h
    obtain ⟨r, h1, h2⟩ := bind_some.mp h
    obtain ⟨rs, h3, rfl⟩ := map_some'.mp h2
    obtain ⟨l, q⟩ := conv_get h3
    refine ⟨by simp [l], fun n u e => ?_⟩
    cases n with
    | zero =>
      simp at e
      subst e
      refine ⟨o, o', rfl, rfl, ?_⟩
      split at h1
      · rename_i z
        cases h1
        exact .inl ⟨z, rfl⟩
      · exact .inr h1
    | succ n => exact q n u (by simpa using e)
/-- the old entries behind -/
theorem conv_ok {k : List Addr} (s0 : Sim c G ι S H) (s1 : Sim c G1 (ι ++ k) S1 H1) {x : Nat} {f : Nat} {R : Sto} (h : conv (rd S1 S.length x f) S S1 = some R) : R.length = S.length ∧ ∀ (n : Nat) (o : O) (a : Addr), R[n]? = some o → ι[n]? = some a → RepO c (froz G1 H1 k (ι ++ k)[x]?) ι H1 a o := by
  obtain ⟨l, q⟩ := conv_get h
  refine ⟨l, fun n o a e ha => ?_⟩
  obtain ⟨o0, o1, h0, h1, hh⟩ := q n o e
  have hl : n < ι.length := (List.getElem?_eq_some_iff.mp ha).1
  have r1 := s1.ent n o1 a h1 (by rw [List.getElem?_append_left hl]; exact ha)
  rcases hh with ⟨rfl, rfl⟩ | hh
  · have r0 := s0.ent n o a h0 ha
    cases o with
    | lst ds =>
      obtain ⟨vs0, _, t0⟩ := r0
      obtain ⟨vs, h2, t⟩ := r1
      exact ⟨vs, h2, reps_scope (froz_g s1) rfl ds vs0 vs t0 t⟩
    | ins j ds =>
      obtain ⟨_, vs0, _, t0, _⟩ := r0
      obtain ⟨dx, vs, h2, t, l⟩ := r1
      exact ⟨dx, vs, h2, reps_scope (froz_g s1) rfl ds vs0 vs t0 t, l⟩
  · rw [← s0.len] at hh
    exact repO_map (froz_g s1) _ (rd_ok s1 x f) hh r1
theorem froz_ext {k : List Addr} (s1 : Sim c G1 (ι ++ k) S1 H1) (e : Ext G ι H G1 (ι ++ k) H1) (x : Option Addr) {l : List Addr} (hl : ∀ a ∈ l, a ∈ k) : Ext G ι H (froz G1 H1 k x) (ι ++ l) H1 := by
  have nk : ∀ a, H a ≠ none → a ∉ k := fun a q m => by
    rcases e.inn a (List.mem_append_right _ m) with z | z
    · exact (List.nodup_append.mp s1.nd).2.2 a z a m rfl
    · exact q z
  refine ⟨fun a o q => froz_g s1 a o (e.g a o q), ⟨l, rfl⟩, e.fr, fun a q => ?_, fun a m => ?_, e.al⟩
  · unfold froz
    rw [if_neg fun z => nk a q z.1]
    exact e.gn a q
  · rcases List.mem_append.mp m with z | z
    · exact .inl z
    · exact e.inn a (List.mem_append_right _ (hl a z))
theorem shut_ok {d d' : D} {v : V} (s0 : Sim c G ι S H) (e : Ext G ι H G1 ι1 H1) (s1 : Sim c G1 ι1 S1 H1) (r : Rep c G1 ι1 d v) (h : shut S d S1 = .ok d' S2) : ∃ G2, Ext G ι H G2 ι H1 ∧ Sim c G2 ι S2 H1 ∧ Rep c G2 ι d' v := by
  obtain ⟨k, rfl⟩ := e.i
  unfold shut at h
  split at h
  · rename_i x S3 h1 h2
    cases h
    have hx : (ι ++ k)[S1.length]? = none := List.getElem?_eq_none (by rw [s1.len]; exact Nat.le_refl _)
    obtain ⟨l, q⟩ := conv_ok s0 s1 h2
    rw [← s0.len] at h1
    have hr := rep_map (froz_g (x := (ι ++ k)[S1.length]?) s1) _ (rd_ok s1 S1.length 6) d d' v h1 r
    have hE := froz_ext s1 e (ι ++ k)[S1.length]? (l := []) (fun a m => by simp at m)
    rw [List.append_nil] at hE
    refine ⟨_, hE, ⟨froz_sub s1, by rw [l, s0.len], s0.nd, fun a m => ?_, fun n o a h3 h4 => q n o a h3 h4⟩, hr⟩
    have m' : a ∈ ι ++ k := List.mem_append_left _ m
    unfold froz
    rw [if_neg fun z => (List.nodup_append.mp s1.nd).2.2 a m a z.1 rfl]
    exact s1.off a m'
  · cases h
theorem shutK_ok {d d' : D} {v : V} (s0 : Sim c G ι S H) (e : Ext G ι H G1 ι1 H1) (s1 : Sim c G1 ι1 S1 H1) (r : Rep c G1 ι1 d v) (h : shutK S d S1 = .ok d' S2) : ∃ G2 ι2, Ext G ι H G2 ι2 H1 ∧ Sim c G2 ι2 S2 H1 ∧ Rep c G2 ι2 d' v := by
  unfold shutK at h
  split at h
  · rename_i n
    split at h
    · obtain ⟨G2, a, b, c⟩ := shut_ok s0 e s1 r h
      exact ⟨G2, ι, a, b, c⟩
    · rename_i hn
      obtain ⟨k, rfl⟩ := e.i
      split at h
      · rename_i o S3 h1 h2
        cases h
        rw [Rep] at r
        obtain ⟨p, hp, rfl⟩ := r
        obtain ⟨o1, h3, h4⟩ := bind_some.mp h1
        obtain ⟨m1, m2⟩ := drop_at s1.nd hp (by rw [s0.len]; omega)
        obtain ⟨l, q⟩ := conv_ok s0 s1 h2
        rw [← s0.len] at h4
        have ro : RepO c (froz G1 H1 k (ι ++ k)[n]?) ι H1 p o := repO_map (froz_g s1) _ (rd_ok s1 n 6) h4 (s1.ent n o1 p h3 hp)
        have hE := froz_ext s1 e (ι ++ k)[n]? (l := [p]) (fun a m => by rw [List.mem_singleton.mp m]; exact m1)
        have lift : ∀ {o : O} {a : Addr}, RepO c (froz G1 H1 k (ι ++ k)[n]?) ι H1 a o → RepO c (froz G1 H1 k (ι ++ k)[n]?) (ι ++ [p]) H1 a o := fun z => z.ext' (fun _ _ w => w) ⟨[p], rfl⟩ rfl
        refine ⟨_, ι ++ [p], hE, ⟨froz_sub s1, by simp [l, s0.len], ?_, fun a m => ?_, fun m u a h5 h6 => ?_⟩, ?_⟩
        · rw [List.nodup_append]
          exact ⟨s0.nd, by simp, fun a ma b mb => by rw [List.mem_singleton.mp mb]; exact fun z => m2 (z ▸ ma)⟩
        · rcases List.mem_append.mp m with z | z
          · unfold froz
            rw [if_neg fun w => (List.nodup_append.mp s1.nd).2.2 a z a w.1 rfl]
            exact s1.off a (List.mem_append_left _ z)
          · rw [List.mem_singleton.mp z]
            unfold froz
            rw [if_neg fun w => w.2 hp]
            exact s1.off p (List.mem_append_right _ m1)
        · by_cases hm : m < S3.length
          · rw [List.getElem?_append_left hm] at h5
            rw [List.getElem?_append_left (by rw [s0.len, ← l]; exact hm)] at h6
            exact lift (q m u a h5 h6)
          · have hm1 : m = S3.length := by
              have := (List.getElem?_eq_some_iff.mp h5).1
              simp at this; omega
            subst hm1
            rw [List.getElem?_append_right (Nat.le_refl _), Nat.sub_self] at h5
            rw [l, ← s0.len, List.getElem?_append_right (Nat.le_refl _), Nat.sub_self] at h6
            cases h5
            cases h6
            exact lift ro
        · rw [Rep]
          refine ⟨p, ?_, rfl⟩
          rw [← s0.len, List.getElem?_append_right (Nat.le_refl _), Nat.sub_self]; rfl
      · cases h
  · obtain ⟨G2, a, b, c⟩ := shut_ok s0 e s1 r h
    exact ⟨G2, ι, a, b, c⟩
end
end Py
namespace Py
open PySem PySem.Spec PyProof.Rows L2

theorem boot_sum : bootBuiltins "sum" = some (.builtin "sum") := by decide +kernel
theorem boot_str : bootBuiltins "str" = some (.type "str") := by decide +kernel
theorem biV_boot (b : Bi) : bootBuiltins (biNm b) = some (biV b) := by
  cases b
  case isinst T => show bootBuiltins "isinstance" = some (.builtin "isinstance"); decide +kernel
  all_goals decide +kernel
theorem ty_boot {T : String} (h : tyOk T = true) : bootBuiltins (Str.ofString T) = some (.type T) := by
  unfold tyOk at h
  simp only [List.contains_eq_mem, List.mem_cons, List.not_mem_nil, or_false, decide_eq_true_eq] at h
  rcases h with rfl | rfl | rfl | rfl | rfl | rfl <;> decide +kernel
section
variable {c : Cfg} {Γ : Gm} {n : Nat} {N : List Str}
theorem Ext.length {G : Hp} {ι : List Addr} {H : Hp} {G1 : Hp} {ι1 : List Addr} {H1 : Hp} (e : Ext G ι H G1 ι1 H1) : ι.length ≤ ι1.length := by
  obtain ⟨k, rfl⟩ := e.i
  simp
/-- a list of arguments, one more -/
theorem s_cons {fa : Sl → Sto → R D} {fs : Sl → Sto → R (List D)} {σ : L2.St} {H : Hp} {Q : List V → Hp → Prop} (h : tA c (fun σ S => (fa σ S).bind fun d S => (fs σ S).bind fun ds S => .ok (d :: ds) S) σ H Q) : tCons (tE c fa) (tA c fs) σ H Q := by
  obtain ⟨G, ι, S, σd, ds, S', sim, rs, hf, post⟩ := h
  obtain ⟨x, S1, h1, hf⟩ := bind_eq.mp hf
  obtain ⟨xs, S2, h2, hf⟩ := bind_eq.mp hf
  cases hf
  refine ⟨G, ι, S, σd, x, S1, sim, rs, h1, fun v G1 ι1 H1 e1 s1 r1 => ?_⟩
  refine ⟨G1, ι1, S1, σd, xs, S', s1, rs.ext e1, h2, fun vs G2 ι2 H2 e2 s2 r2 => ?_⟩
  exact post _ _ _ _ (e1.trans e2) s2 (Reps.cons (r1.ext e2) r2)
/-- arguments, then a step on values -/
theorem s_args {fs : Sl → Sto → R (List D)} {g : List D → Sto → R D} {σ : L2.St} {H : Hp} {Q : VK} (h : tE c (fun σ S => (fs σ S).bind g) σ H Q) : tA c fs σ H fun vs H1 => rDL c g vs H1 Q := by
  obtain ⟨G, ι, S, σd, d, S', sim, rs, hf, post⟩ := h
  obtain ⟨x, S1, h1, hf⟩ := bind_eq.mp hf
  exact ⟨G, ι, S, σd, x, S1, sim, rs, h1, fun v G1 ι1 H1 e1 s1 r1 => ⟨G1, ι1, S1, x, d, S', s1, r1, hf, post.mono e1⟩⟩
theorem tE_mono {X : Cx} {f : Sl → Sto → R D} {σ : L2.St} {H : Hp} {Q Q' : VK} (h : tE c f σ H Q) (hi : ∀ v H', Q v H' → Q' v H') : tE c f σ H Q' := by
  obtain ⟨G, ι, S, σd, d, S', sim, rs, hf, post⟩ := h
  exact ⟨G, ι, S, σd, d, S', sim, rs, hf, fun v G' ι' H' e s r => hi _ _ (post v G' ι' H' e s r)⟩
/-! ### and, or as values -/
theorem s_and {fa fb : Sl → Sto → R D} {σ : L2.St} {H : Hp} {Q : VK} (h : tE c (fun σ S => (fa σ S).bind fun x S => (match x with
    | .bl true => fb σ S
    | .bl false => .ok (.bl false) S
    | _ => .bad)) σ H Q) : tAndV (tE c fa) (tE c fb) σ H Q := by
  obtain ⟨G, ι, S, σd, d, S', sim, rs, hf, post⟩ := h
  obtain ⟨x, S1, h1, hf⟩ := bind_eq.mp hf
  refine ⟨G, ι, S, σd, x, S1, sim, rs, h1, fun v G1 ι1 H1 e1 s1 r1 => ?_⟩
  split at hf
  · refine ⟨true, r1.bl_inv, iteT ?_⟩
    exact ⟨G1, ι1, S1, σd, d, S', s1, rs.ext e1, hf, post.mono e1⟩
  · cases hf
    exact ⟨false, r1.bl_inv, iteF (post _ _ _ _ e1 s1 (by rw [Rep]))⟩
  · cases hf
theorem s_or {fa fb : Sl → Sto → R D} {σ : L2.St} {H : Hp} {Q : VK} (h : tE c (fun σ S => (fa σ S).bind fun x S => (match x with
    | .bl true => .ok (.bl true) S
    | .bl false => fb σ S
    | _ => .bad)) σ H Q) : tOrV (tE c fa) (tE c fb) σ H Q := by
  obtain ⟨G, ι, S, σd, d, S', sim, rs, hf, post⟩ := h
  obtain ⟨x, S1, h1, hf⟩ := bind_eq.mp hf
  refine ⟨G, ι, S, σd, x, S1, sim, rs, h1, fun v G1 ι1 H1 e1 s1 r1 => ?_⟩
  split at hf
  · cases hf
    exact ⟨true, r1.bl_inv, iteT (post _ _ _ _ e1 s1 (by rw [Rep]))⟩
  · refine ⟨false, r1.bl_inv, iteF ?_⟩
    exact ⟨G1, ι1, S1, σd, d, S', s1, rs.ext e1, hf, post.mono e1⟩
  · cases hf
theorem s_tand {fa fb : Sl → Sto → R Bool} {σ : L2.St} {H : Hp} {Q : Bool → Hp → Prop} (h : tT c (fun σ S => (fa σ S).bind fun b S => if b then fb σ S else .ok false S) σ H Q) : tAnd (tT c fa) (tT c fb) σ H Q := by
  obtain ⟨G, ι, S, σd, d, S', sim, rs, hf, post⟩ := h
  obtain ⟨x, S1, h1, hf⟩ := bind_eq.mp hf
  refine ⟨G, ι, S, σd, x, S1, sim, rs, h1, fun G1 ι1 H1 e1 s1 => ?_⟩
  cases x with
  | true => exact iteT ⟨G1, ι1, S1, σd, d, S', s1, rs.ext e1, hf, post.mono e1⟩
  | false =>
    cases hf
    exact iteF (post _ _ _ e1 s1)
theorem s_tor {fa fb : Sl → Sto → R Bool} {σ : L2.St} {H : Hp} {Q : Bool → Hp → Prop} (h : tT c (fun σ S => (fa σ S).bind fun b S => if b then .ok true S else fb σ S) σ H Q) : tOr (tT c fa) (tT c fb) σ H Q := by
  obtain ⟨G, ι, S, σd, d, S', sim, rs, hf, post⟩ := h
  obtain ⟨x, S1, h1, hf⟩ := bind_eq.mp hf
  refine ⟨G, ι, S, σd, x, S1, sim, rs, h1, fun G1 ι1 H1 e1 s1 => ?_⟩
  cases x with
  | false => exact iteF ⟨G1, ι1, S1, σd, d, S', s1, rs.ext e1, hf, post.mono e1⟩
  | true =>
    cases hf
    exact iteT (post _ _ _ e1 s1)
theorem s_ife {ft : Sl → Sto → R Bool} {fa fb : Sl → Sto → R D} {σ : L2.St} {H : Hp} {Q : VK} (h : tE c (fun σ S => (ft σ S).bind fun b S => if b then fa σ S else fb σ S) σ H Q) : tIf (tT c ft) (tE c fa) (tE c fb) σ H Q := by
  obtain ⟨G, ι, S, σd, d, S', sim, rs, hf, post⟩ := h
  obtain ⟨x, S1, h1, hf⟩ := bind_eq.mp hf
  refine ⟨G, ι, S, σd, x, S1, sim, rs, h1, fun G1 ι1 H1 e1 s1 => ?_⟩
  cases x with
  | true => exact iteT ⟨G1, ι1, S1, σd, d, S', s1, rs.ext e1, hf, post.mono e1⟩
  | false => exact iteF ⟨G1, ι1, S1, σd, d, S', s1, rs.ext e1, hf, post.mono e1⟩
/-! ### iterators -/
theorem iv_list {G : Hp} {ι : List Addr} {d : D} {a : Addr} (hd : ∀ G1 ι1 S1 H1, (∀ a o, G a = some o → G1 a = some o) → (∃ k, ι1 = ι ++ k) → Sim c G1 ι1 S1 H1 → ∀ xs, seqOf S1 d = some xs → ∃ vs, SqL c.K H1 a vs ∧ Reps c G1 ι1 xs vs) :
    IVok c G ι (.sq d) (Itl c.K a) := by
  intro G1 ι1 S1 H1 i g hk s1
  refine ⟨fun x h => ?_, fun h => ?_⟩
  · simp only [nxt] at h
    obtain ⟨xs, h1, h2⟩ := map_some'.mp h
    obtain ⟨vs, q, t⟩ := hd G1 ι1 S1 H1 g hk s1 xs h1
    obtain ⟨v, hv, r⟩ := t.get h2
    refine ⟨⟨vs, v, q, hv⟩, fun w H2 y => ?_⟩
    obtain ⟨rfl, y⟩ := y
    have : w = v := Option.some.inj ((y vs q).symm.trans hv)
    subst this
    exact ⟨G1, .refl, s1, r⟩
  · simp only [nxt] at h
    obtain ⟨xs, h1, h2⟩ := map_some'.mp h
    obtain ⟨vs, q, t⟩ := hd G1 ι1 S1 H1 g hk s1 xs h1
    exact ⟨vs, q, by rw [t.length]; exact List.getElem?_eq_none_iff.mp h2⟩
theorem iv_tup {G : Hp} {ι : List Addr} {ds : List D} {a : Addr} {vs : List V} (q : SqT c.K G a vs) (t : Reps c G ι ds vs) : IVok c G ι (.sq (.tup ds)) (Itt c.K a) := by
  intro G1 ι1 S1 H1 i g hk s1
  have q1 : SqT c.K H1 a vs := sqT_sub (sqT_sub q g) s1.sub
  have t1 := Reps.mono g hk _ _ t
  refine ⟨fun x h => ?_, fun h => ?_⟩
  · simp only [nxt, seqOf, Option.map_some, Option.some.injEq] at h
    obtain ⟨v, hv, r⟩ := t1.get h
    refine ⟨⟨vs, v, q1, hv⟩, fun w H2 y => ?_⟩
    obtain ⟨rfl, y⟩ := y
    have : w = v := Option.some.inj ((y vs q1).symm.trans hv)
    subst this
    exact ⟨G1, .refl, s1, r⟩
  · simp only [nxt, seqOf, Option.map_some, Option.some.injEq] at h
    exact ⟨vs, q1, by rw [t.length]; exact List.getElem?_eq_none_iff.mp h⟩
theorem iv_rng {G : Hp} {ι : List Addr} {lo : Int} {m : Nat} : IVok c G ι (.rg lo m) (Itr lo m) := by
  intro G1 ι1 S1 H1 i g hk s1
  refine ⟨fun x h => ?_, fun h => ?_⟩
  · simp only [nxt] at h
    split at h
    · rename_i hi
      cases h
      refine ⟨hi, fun w H2 y => ?_⟩
      obtain ⟨rfl, rfl⟩ := y
      exact ⟨G1, .refl, s1, by rw [Rep]⟩
    · cases h
  · simp only [nxt] at h
    split at h
    · cases h
    · rename_i hi
      show m ≤ i
      omega
/-- a list or a tuple by value, or an entry -/
theorem rep_list {G : Hp} {ι : List Addr} {d : D} {a : Addr} {G1 : Hp} {ι1 : List Addr} {S1 : Sto} {H1 : Hp} (hd : isTup d = false) (r : Rep c G ι d (.ref a)) (g : ∀ a o, G a = some o → G1 a = some o) (hk : ∃ k, ι1 = ι ++ k) (s1 : Sim c G1 ι1 S1 H1) {xs : List D}
    (h : seqOf S1 d = some xs) : ∃ vs, SqL c.K H1 a vs ∧ Reps c G1 ι1 xs vs := by
  have hl : lstOf S1 d = some xs := by
    cases d <;> first
      | exact h
      | (exact absurd hd (by simp [isTup]))
      | (exact absurd h (by simp [seqOf]))
  obtain ⟨a', vs, e, q, t⟩ := s1.list (Rep.mono g hk _ _ r) hl
  cases e
  exact ⟨vs, q, t⟩
/-- the items of what is read, over any heap that extends -/
def SeqAt' (c : Cfg) (G : Hp) (ι : List Addr) (d : D) (rd : Hp → List V → Prop) : Prop := ∀ G1 ι1 S1 H1, (∀ a o, G a = some o → G1 a = some o) → (∃ k, ι1 = ι ++ k) → Sim c G1 ι1 S1 H1 → ∀ xs, seqOf S1 d = some xs → ∃ vs, rd H1 vs ∧ Reps c G1 ι1 xs vs
theorem seqAt_list {G : Hp} {ι : List Addr} {d : D} {a : Addr} (hd : isTup d = false) (r : Rep c G ι d (.ref a)) : SeqAt' c G ι d (fun H vs => SqL c.K H a vs) := fun _ _ _ _ g hk s1 _ h => rep_list hd r g hk s1 h
theorem seqAt_tup {G : Hp} {ι : List Addr} {ds : List D} {a : Addr} (r : Rep c G ι (.tup ds) (.ref a)) : SeqAt' c G ι (.tup ds) (fun H vs => SqT c.K H a vs) := by
  intro G1 ι1 S1 H1 g hk s1 xs h
  cases h
  have r1 := Rep.mono g hk _ _ r
  rw [Rep] at r1
  obtain ⟨a', vs, e, q, t⟩ := r1
  cases e
  exact ⟨vs, sqT_sub q s1.sub, t⟩
theorem iv_enum {G : Hp} {ι : List Addr} {d : D} {a : Addr} (hd : SeqAt' c G ι d (fun H vs => SqL c.K H a vs)) : IVok c G ι (.en d) (Ite c.K a) := by
  intro G1 ι1 S1 H1 i g hk s1
  refine ⟨fun x h => ?_, fun h => ?_⟩
  · simp only [nxt] at h
    obtain ⟨xs, h1, h2⟩ := map_some'.mp h
    obtain ⟨x0, h3, rfl⟩ := map_some'.mp h2
    obtain ⟨vs, q, t⟩ := hd G1 ι1 S1 H1 g hk s1 xs h1
    obtain ⟨v, hv, r⟩ := t.get h3
    refine ⟨⟨vs, v, q, hv⟩, fun w H2 y => ?_⟩
    obtain ⟨T, v', rfl, nT, rfl, y⟩ := y
    have : v' = v := Option.some.inj ((y vs q).symm.trans hv)
    subst this
    obtain ⟨e2, s2⟩ := s1.val (o := .tup [.int (i : Nat), v']) nT
    refine ⟨_, e2, s2, ?_⟩
    rw [Rep]
    exact ⟨T, _, rfl, SqT.of upd_same, Reps.cons (by rw [Rep]) (Reps.one (r.ext e2))⟩
  · simp only [nxt] at h
    obtain ⟨xs, h1, h2⟩ := map_some'.mp h
    obtain ⟨vs, q, t⟩ := hd G1 ι1 S1 H1 g hk s1 xs h1
    refine ⟨vs, q, ?_⟩
    rw [t.length]
    cases e : xs[i]? with
    | none => exact List.getElem?_eq_none_iff.mp e
    | some z => rw [e] at h2; cases h2
theorem iv_zip {G : Hp} {ι : List Addr} {d e : D} {rdA rdB : Hp → List V → Prop} {J : It} (hd : SeqAt' c G ι d rdA) (he : SeqAt' c G ι e rdB)
    (hg : ∀ i H, J.go i H ↔ ∃ (xs ys : List V) (x y : V), rdA H xs ∧ rdB H ys ∧ xs[i]? = some x ∧ ys[i]? = some y)
    (hy : ∀ i H v H', J.yld i H v H' ↔ ∃ T x y, v = .ref T ∧ H T = none ∧ H' = upd H T (.tup [x, y]) ∧ (∀ xs, rdA H xs → xs[i]? = some x) ∧ ∀ ys, rdB H ys → ys[i]? = some y)
    (hs : ∀ i H, J.stop i H ↔ ∃ xs ys : List V, rdA H xs ∧ rdB H ys ∧ (xs.length ≤ i ∨ ys.length ≤ i)) : IVok c G ι (.zp d e) J := by
  intro G1 ι1 S1 H1 i g hk s1
  refine ⟨fun x h => ?_, fun h => ?_⟩
  · simp only [nxt] at h
    obtain ⟨xs, h1, h2⟩ := bind_some.mp h
    obtain ⟨ys, h3, h4⟩ := map_some'.mp h2
    obtain ⟨x0, h5, h6⟩ := bind_some.mp h4
    obtain ⟨y0, h7, rfl⟩ := map_some'.mp h6
    obtain ⟨vs, q, t⟩ := hd G1 ι1 S1 H1 g hk s1 xs h1
    obtain ⟨ws, q', t'⟩ := he G1 ι1 S1 H1 g hk s1 ys h3
    obtain ⟨v, hv, r⟩ := t.get h5
    obtain ⟨w, hw, r'⟩ := t'.get h7
    refine ⟨(hg _ _).mpr ⟨vs, ws, v, w, q, q', hv, hw⟩, fun u H2 y => ?_⟩
    obtain ⟨T, v', w', rfl, nT, rfl, y1, y2⟩ := (hy _ _ _ _).mp y
    have e1 : v' = v := Option.some.inj ((y1 vs q).symm.trans hv)
    have e2 : w' = w := Option.some.inj ((y2 ws q').symm.trans hw)
    subst e1 e2
    obtain ⟨e2, s2⟩ := s1.val (o := .tup [v', w']) nT
    refine ⟨_, e2, s2, ?_⟩
    rw [Rep]
    exact ⟨T, _, rfl, SqT.of upd_same, Reps.cons (r.ext e2) (Reps.one (r'.ext e2))⟩
  · simp only [nxt] at h
    obtain ⟨xs, h1, h2⟩ := bind_some.mp h
    obtain ⟨ys, h3, h4⟩ := map_some'.mp h2
    obtain ⟨vs, q, t⟩ := hd G1 ι1 S1 H1 g hk s1 xs h1
    obtain ⟨ws, q', t'⟩ := he G1 ι1 S1 H1 g hk s1 ys h3
    refine (hs _ _).mpr ⟨vs, ws, q, q', ?_⟩
    rw [t.length, t'.length]
    cases e : xs[i]? with
    | none => exact .inl (List.getElem?_eq_none_iff.mp e)
    | some z =>
      rw [e] at h4
      cases e' : ys[i]? with
      | none => exact .inr (List.getElem?_eq_none_iff.mp e')
      | some z' => rw [e'] at h4; cases h4
theorem iv_rev {G : Hp} {ι : List Addr} {d : D} {m : Nat} {rd : Hp → List V → Prop} {J : It} (hd : SeqAt' c G ι d rd)
    (hg : ∀ i H, J.go i H ↔ i < m ∧ ∃ (xs : List V) (x : V), rd H xs ∧ xs[m - 1 - i]? = some x)
    (hy : ∀ i H x H', J.yld i H x H' ↔ H' = H ∧ ∀ xs, rd H xs → xs[m - 1 - i]? = some x) (hs : ∀ i H, J.stop i H ↔ m ≤ i) : IVok c G ι (.rv d m) J := by
  intro G1 ι1 S1 H1 i g hk s1
  refine ⟨fun x h => ?_, fun h => ?_⟩
  · simp only [nxt] at h
    obtain ⟨xs, h1, h2⟩ := bind_some.mp h
    rw [Option.ite_none_right_eq_some] at h2
    obtain ⟨hl, h2⟩ := h2
    cases h2' : (if i < m then xs[m - 1 - i]? else none) with
    | none => rw [h2'] at h2; cases h2
    | some z =>
      rw [h2'] at h2
      cases h2
      rw [Option.ite_none_right_eq_some] at h2'
      obtain ⟨hi, h3⟩ := h2'
      obtain ⟨vs, q, t⟩ := hd G1 ι1 S1 H1 g hk s1 xs h1
      obtain ⟨v, hv, r⟩ := t.get h3
      refine ⟨(hg _ _).mpr ⟨hi, vs, v, q, hv⟩, fun u H2 y => ?_⟩
      obtain ⟨rfl, y⟩ := (hy _ _ _ _).mp y
      have e1 : u = v := Option.some.inj ((y vs q).symm.trans hv)
      subst e1
      exact ⟨G1, .refl, s1, r⟩
  · simp only [nxt] at h
    obtain ⟨xs, h1, h2⟩ := bind_some.mp h
    rw [Option.ite_none_right_eq_some] at h2
    obtain ⟨hl, h2⟩ := h2
    refine (hs _ _).mpr ?_
    have h3 : (if i < m then xs[m - 1 - i]? else none) = none := Option.some.inj h2
    by_cases hi : i < m
    · rw [if_pos hi, List.getElem?_eq_none_iff] at h3
      omega
    · omega
end
end Py
namespace Py
open PySem PySem.Spec PyProof.Rows L2

/-- the call of a built-in by its code -/
theorem pe_callV {X : Cx} {f : Value} {r : List V → Hp → VK → Prop} {x : Str} {p pos : Pos} {e : PySem.Expr} {es : List PySem.Expr} {t : TA} (hc : CallR X f r) (hf : (∃ id, f = .builtin id) ∨ ∃ T, f = .type T) (hg : Gl X x) (hm : X.mg x = none) (hv : bootBuiltins x = some f) (ha : PA X (e :: es) t)
    (hn : x ≠ "__name__") (hdb : (x == ("__debug__" : Str)) = false) (he : starEach (e :: es) X.env = (false, eval e X.env) :: starEach es X.env) (hpl : (backTo pos (starEach es X.env)).any (·.1) = false) : PE X (.Call (.Name x p) (e :: es) [] pos) (tCB r t) := by
  rcases hf with ⟨id, rfl⟩ | ⟨T, rfl⟩
  · exact pe_callB hc hg hm hv ha hn hdb he hpl
  · exact pe_callTy hc hg hm hv ha hn hdb he hpl
theorem biV_form (b : Bi) : (∃ id, biV b = .builtin id) ∨ ∃ T, biV b = .type T := by
  cases b <;> first
    | exact .inl ⟨_, rfl⟩
    | exact .inr ⟨_, rfl⟩
theorem biNm_ok (b : Bi) : biNm b ≠ "__name__" ∧ (biNm b == ("__debug__" : Str)) = false := by
  cases b
  case isinst T => show ("isinstance" : Str) ≠ "__name__" ∧ (("isinstance" : Str) == ("__debug__" : Str)) = false; decide
  all_goals decide
theorem tyNm_ok {T : String} (h : tyOk T = true) : Str.ofString T ≠ "__name__" ∧ (Str.ofString T == ("__debug__" : Str)) = false := by
  unfold tyOk at h
  simp only [List.contains_eq_mem, List.mem_cons, List.not_mem_nil, or_false, decide_eq_true_eq] at h
  rcases h with rfl | rfl | rfl | rfl | rfl | rfl <;> decide
theorem biNm_mem (b : Bi) : biNm b ∈ bnames := by
  cases b
  case isinst T => show ("isinstance" : Str) ∈ bnames; decide
  all_goals decide
theorem tyNm_mem {T : String} (h : tyOk T = true) : Str.ofString T ∈ bnames := by
  unfold tyOk at h
  simp only [List.contains_eq_mem, List.mem_cons, List.not_mem_nil, or_false, decide_eq_true_eq] at h
  rcases h with rfl | rfl | rfl | rfl | rfl | rfl <;> decide
theorem is_plain {e : PySem.Expr} {env : Env} (h1 : plainT e = true) : ∀ whole, isTrue e env whole = (do let v ← whole; standAt e.pos; holding [v] (truthy v)) := by
  intro whole
  cases e <;> first
    | rfl
    | (exact absurd h1 Bool.false_ne_true)
    | (rename_i o a p; cases o <;> first | rfl | (exact absurd h1 Bool.false_ne_true))
section
variable {c : Cfg} {Γ : Gm} {n : Nat} {N : List Str}
theorem s_val {X : Cx} (hK : X.K = c.K) {fa : Sl → Sto → R D} {σ : L2.St} {H : Hp} {Q : Bool → Hp → Prop} (h : tT c (fun σ S => (fa σ S).bind fun d S => optR S (truD S d)) σ H Q) : tE c fa σ H fun x H' => ∃ k, TruV X.K x H' k ∧ Q k H' := by
  obtain ⟨G, ι, S, σd, d, S', sim, rs, hf, post⟩ := h
  obtain ⟨x, S1, h1, hf⟩ := bind_eq.mp hf
  obtain ⟨h2, e⟩ := optR_ok.mp hf
  subst e
  exact ⟨G, ι, S, σd, x, S', sim, rs, h1, fun v G1 ι1 H1 e1 s1 r1 => ⟨d, by rw [hK]; exact truD_ok s1 r1 h2, post _ _ _ e1 s1⟩⟩
theorem s_test {fa : Sl → Sto → R D} (hb : ∀ σ S d S', fa σ S = .ok d S' → ∃ b, d = .bl b) {σ : L2.St} {H : Hp} {Q : Bool → Hp → Prop} (h : tT c (fun σ S => (fa σ S).bind fun d S => optR S (truD S d)) σ H Q) : tE c fa σ H fun x H' => ∃ k, x = .bl k ∧ Q k H' := by
  obtain ⟨G, ι, S, σd, d, S', sim, rs, hf, post⟩ := h
  obtain ⟨x, S1, h1, hf⟩ := bind_eq.mp hf
  obtain ⟨h2, e⟩ := optR_ok.mp hf
  subst e
  obtain ⟨b, rfl⟩ := hb _ _ _ _ h1
  simp only [truD, Option.some.injEq] at h2
  subst h2
  exact ⟨G, ι, S, σd, _, S', sim, rs, h1, fun v G1 ι1 H1 e1 s1 r1 => ⟨b, r1.bl_inv, post _ _ _ e1 s1⟩⟩
theorem cmpD_bl {o : CmpOp} {x y : D} {S : Sto} {d : D} {S' : Sto} (h : cmpD o x y S = .ok d S') : ∃ b, d = .bl b := by
  cases o <;> simp only [cmpD] at h
  case Eq => obtain ⟨b, _, _, h⟩ := bind_eq.mp h; cases h; exact ⟨_, rfl⟩
  case NotEq => obtain ⟨b, _, _, h⟩ := bind_eq.mp h; cases h; exact ⟨_, rfl⟩
  case In => obtain ⟨b, _, _, h⟩ := bind_eq.mp h; cases h; exact ⟨_, rfl⟩
  case NotIn => obtain ⟨b, _, _, h⟩ := bind_eq.mp h; cases h; exact ⟨_, rfl⟩
  all_goals
    split at h <;> first | (cases h; exact ⟨_, rfl⟩) | cases h
theorem s_chain {fa fb fc : Sl → Sto → R D} {o p : CmpOp} {σ : L2.St} {H : Hp} {Q : VK} (h : tE c (fun σ S => (fa σ S).bind fun x S => (fb σ S).bind fun y S => (cmpD o x y S).bind fun r S => (match r with
    | .bl true => (fc σ S).bind fun z S => cmpD p y z S
    | .bl false => .ok (.bl false) S
    | _ => .bad)) σ H Q) : tChain (rD2 c (cmpD o)) (rD2 c (cmpD p)) (tE c fa) (tE c fb) (tE c fc) σ H Q := by
  obtain ⟨G, ι, S, σd, d, S', sim, rs, hf, post⟩ := h
  obtain ⟨x, S1, h1, hf⟩ := bind_eq.mp hf
  obtain ⟨y, S2, h2, hf⟩ := bind_eq.mp hf
  obtain ⟨r, S3, h3, hf⟩ := bind_eq.mp hf
  refine ⟨G, ι, S, σd, x, S1, sim, rs, h1, fun v G1 ι1 H1 e1 s1 r1 => ?_⟩
  refine ⟨G1, ι1, S1, σd, y, S2, s1, rs.ext e1, h2, fun w G2 ι2 H2 e2 s2 r2 => ?_⟩
  refine ⟨G2, ι2, S2, x, y, r, S3, s2, r1.ext e2, r2, h3, fun u G3 ι3 H3 e3 s3 r3 => ?_⟩
  split at hf
  · obtain ⟨z, S4, h4, hf⟩ := bind_eq.mp hf
    refine ⟨true, r3.bl_inv, iteT ?_⟩
    refine ⟨G3, ι3, S3, σd, z, S4, s3, rs.ext (e1.trans (e2.trans e3)), h4, fun q G4 ι4 H4 e4 s4 r4 => ?_⟩
    exact ⟨G4, ι4, S4, y, z, d, S', s4, r2.ext (e3.trans e4), r4, hf, post.mono (e1.trans (e2.trans (e3.trans e4)))⟩
  · cases hf
    exact ⟨false, r3.bl_inv, iteF (post _ _ _ _ (e1.trans (e2.trans e3)) s3 (by rw [Rep]))⟩
  · cases hf
/-- fields -/
theorem s_fld {X : Cx} {sc : Scope} {all : Bool} (W : Here c Γ n N sc all X) {f : Nat} {fa : Sl → Sto → R D} {σ : L2.St} {H : Hp} {Q : VK} (h : tE c (fun σ S => (fa σ S).bind fun x S => fldD c.T f x S) σ H Q) : tFld X.K (tE c fa) (c.nm f) σ H Q := by
  obtain ⟨G, ι, S, σd, d, S', sim, rs, hf, post⟩ := h
  obtain ⟨x, S1, h1, hf⟩ := bind_eq.mp hf
  obtain ⟨h2, e⟩ := optR_ok.mp hf
  subst e
  obtain ⟨⟨k, xs⟩, h3, h4⟩ := bind_some.mp h2
  obtain ⟨j, h5, h6⟩ := bind_some.mp h4
  refine ⟨G, ι, S, σd, x, S', sim, rs, h1, fun v G1 ι1 H1 e1 s1 r1 => ?_⟩
  obtain ⟨a, dx, vs, rfl, q, t, l⟩ := s1.ins r1 h3
  obtain ⟨w, hw, rw'⟩ := t.get h6
  obtain ⟨c1, c2⟩ := W.cls k f (fld_mem h5)
  exact ⟨a, c.CA k, dx, _, w, rfl, q, c1, c2, zip_lookup W.inj h5 hw, post _ _ _ _ e1 s1 rw'⟩
/-- a call of a def of the module -/
theorem s_call {g : List D → Sto → R D} {fs : Sl → Sto → R (List D)} {σ : L2.St} {H : Hp} {Q : VK} (h : tE c (fun σ S => (fs σ S).bind g) σ H Q) : tCall (spG c g) [] E0 (tA c fs) σ H Q := by
  obtain ⟨G, ι, S, σd, d, S', sim, rs, hf, post⟩ := h
  obtain ⟨x, S1, h1, hf⟩ := bind_eq.mp hf
  refine ⟨G, ι, S, σd, x, S1, sim, rs, h1, fun vs G1 ι1 H1 e1 s1 r1 => ?_⟩
  show spG c g (vs ++ []) H1 Q E0
  rw [List.append_nil]
  exact ⟨G1, ι1, S1, x, d, S', s1, r1, hf, post.mono e1⟩
theorem s_mk {k : Nat} {fs : Sl → Sto → R (List D)} {σ : L2.St} {H : Hp} {Q : VK} (h : tE c (fun σ S => (fs σ S).bind fun ds S => (Γ (c.T.init k) (.ref S.length :: ds) (S ++ [.ins k []])).bind fun r S' => (match r with
      | .non => .ok (.ref S.length) S'
      | _ => .bad)) σ H Q) : tMake (c.CA k) (spG c (Γ (c.T.init k))) [] E0 (tA c fs) σ H Q := by
  obtain ⟨G, ι, S, σd, d, S', sim, rs, hf, post⟩ := h
  obtain ⟨x, S1, h1, hf⟩ := bind_eq.mp hf
  obtain ⟨r, S2, h2, hf⟩ := bind_eq.mp hf
  refine ⟨G, ι, S, σd, x, S1, sim, rs, h1, fun vs G1 ι1 H1 e1 s1 r1 a dx na nd ne => ?_⟩
  rw [List.append_nil]
  split at hf
  · cases hf
    obtain ⟨gd, id⟩ := s1.fresh nd
    have s2 : Sim c G1 ι1 S1 (upd H1 dx (.own a)) := s1.side gd id
    have e2 : Ext G1 ι1 H1 G1 ι1 (upd H1 dx (.own a)) := Ext.refl.side nd
    have na2 : upd H1 dx (.own a) a = none := by rw [upd_ne (Ne.symm ne)]; exact na
    have f0 : c.fs k [] = [] := by unfold Cfg.fs; rw [List.zip_nil_right]
    obtain ⟨e3, s3⟩ := s2.push (p := a) (u := .ins (c.CA k) dx []) (o := .ins k []) na2 fun H' e => ⟨dx, [], by rw [f0]; exact e, Reps.nil, Nat.zero_le _⟩
    refine ⟨G1, ι1 ++ [a], _, .ref S1.length :: x, .non, _, s3, Reps.cons ?_ (r1.ext (e2.trans e3)), h2, fun v G4 ι4 H4 e4 s4 r4 => ⟨r4.non_inv, ?_⟩⟩
    · rw [Rep]
      exact ⟨a, by rw [← s1.len, List.getElem?_append_right (Nat.le_refl _), Nat.sub_self]; rfl, rfl⟩
    · refine post _ _ _ _ (e1.trans (e2.trans (e3.trans e4))) s4 ?_
      rw [Rep]
      obtain ⟨kk, e5⟩ := e4.i
      refine ⟨a, ?_, rfl⟩
      rw [e5, List.append_assoc, ← s1.len, List.getElem?_append_right (Nat.le_refl _), Nat.sub_self]; rfl
  · cases hf
theorem zip_none {c : Cfg} {fs : List Nat} {m : Str} (h : ∀ f ∈ fs, c.nm f ≠ m) : ∀ vs : List V, ((fs.map c.nm).zip vs).lookup m = none := by
  induction fs with
  | nil => intro vs; rfl
  | cons f r ih =>
    intro vs
    cases vs with
    | nil => rfl
    | cons v vs =>
      rw [List.map_cons, List.zip_cons_cons, List.lookup_cons]
      have : (m == c.nm f) = false := by
        rw [beq_eq_false_iff_ne]
        exact fun e => h f List.mem_cons_self e.symm
      rw [this]
      exact ih (fun g hg => h g (List.mem_cons_of_mem _ hg)) vs
theorem s_om {k m : Nat} {g : List D → Sto → R D} {fa : Sl → Sto → R D} {fs : Sl → Sto → R (List D)} (hm : ∀ f ∈ c.T.flds k, c.nm f ≠ c.mnm m) {σ : L2.St} {H : Hp} {Q : VK} (h : tE c (fun σ S => (fa σ S).bind fun x S => (match insOf S x with
    | some (d, _) => if d = k then (fs σ S).bind fun ds S => g (x :: ds) S else .bad
    | none => .bad)) σ H Q) : tMeth (c.CA k) (c.mnm m) (spG c g) [] E0 (tE c fa) (tA c fs) σ H Q := by
  obtain ⟨G, ι, S, σd, d, S', sim, rs, hf, post⟩ := h
  obtain ⟨x, S1, h1, hf⟩ := bind_eq.mp hf
  split at hf
  · rename_i j xs hi
    obtain ⟨ej, hg⟩ := ite_bad.mp hf
    subst ej
    obtain ⟨ys, S2, h2, hg2⟩ := bind_eq.mp hg
    refine ⟨G, ι, S, σd, x, S1, sim, rs, h1, fun v G1 ι1 H1 e1 s1 r1 => ?_⟩
    obtain ⟨a, dx, vs, rfl, q, t, l⟩ := s1.ins r1 hi
    refine ⟨a, dx, _, rfl, q, zip_none hm vs, ?_⟩
    refine ⟨G1, ι1, S1, σd, ys, S2, s1, rs.ext e1, h2, fun ws G2 ι2 H2 e2 s2 r2 => ?_⟩
    show spG c g (V.ref a :: (ws ++ [])) H2 Q E0
    rw [List.append_nil]
    exact ⟨G2, ι2, S2, x :: ys, d, S', s2, Reps.cons (r1.ext e2) r2, hg2, post.mono (e1.trans e2)⟩
  · cases hf
/-- methods of lists -/
theorem s_met {X : Cx} (hK : X.K = c.K) {m : Me} {fa : Sl → Sto → R D} {fs : Sl → Sto → R (List D)} {σ : L2.St} {H : Hp} {Q : VK} (h : tE c (fun σ S => (fa σ S).bind fun x S => (match lstOf S x with
    | some _ => (fs σ S).bind fun ds S => meD m x ds S
    | none => .bad)) σ H Q) : tBM X.K "list" (rMe c m) (tE c fa) (tA c fs) σ H Q := by
  obtain ⟨G, ι, S, σd, d, S', sim, rs, hf, post⟩ := h
  obtain ⟨x, S1, h1, hf⟩ := bind_eq.mp hf
  split at hf
  · rename_i xs hx
    obtain ⟨ds, S2, h2, hf⟩ := bind_eq.mp hf
    refine ⟨G, ι, S, σd, x, S1, sim, rs, h1, fun v G1 ι1 H1 e1 s1 r1 => ?_⟩
    obtain ⟨a, vs, rfl, q, t⟩ := s1.list r1 hx
    refine ⟨.inl ⟨rfl, vs, by rw [hK]; exact q⟩, ?_⟩
    refine ⟨G1, ι1, S1, σd, ds, S2, s1, rs.ext e1, h2, fun ws G2 ι2 H2 e2 s2 r2 => ?_⟩
    exact ⟨G2, ι2, S2, x, ds, d, S', s2, r1.ext e2, r2, hf, post.mono (e1.trans e2)⟩
  · cases hf
end
end Py
namespace Py
open PySem PySem.Spec PyProof.Rows L2
section
variable {c : Cfg} {Γ : Gm} {n : Nat} {N : List Str} {G G1 : Hp} {ι ι1 : List Addr} {H H1 : Hp} {S S1 : Sto}
theorem RepSl.set {σ : L2.St} {σd : Sl} {d : D} {v : V} (r : RepSl c G ι σ σd) (h : Rep c G ι d v) (i : Nat) : RepSl c G ι (σ.set i (some v)) (σd.set i (some d)) := by
  refine ⟨by simp [r.1], fun j e q => ?_⟩
  by_cases hj : i = j
  · subst hj
    have hl : i < σd.length := by
      have := (List.getElem?_eq_some_iff.mp q).1
      simpa using this
    rw [List.getElem?_set_self hl] at q
    cases q
    exact ⟨v, by rw [List.getElem?_set_self (by rw [r.1]; exact hl)], h⟩
  · rw [List.getElem?_set_ne hj] at q ⊢
    exact r.2 j e q
theorem RepSl.wipe {σ : L2.St} {σd : Sl} (r : RepSl c G ι σ σd) : ∀ vs : List Nat, RepSl c G ι (L2.wipe σ vs) (wipeD σd vs)
  | [] => r
  | v :: vs => by
    have ih := RepSl.wipe r vs
    refine ⟨by simp [L2.wipe, wipeD, ih.1], fun j e q => ?_⟩
    rw [wipeD] at q
    rw [L2.wipe]
    by_cases hj : v = j
    · subst hj
      have hl : v < (wipeD σd vs).length := by
        have := (List.getElem?_eq_some_iff.mp q).1
        simpa using this
      rw [List.getElem?_set_self hl] at q
      cases q
    · rw [List.getElem?_set_ne hj] at q ⊢
      exact ih.2 j e q
/-! ### targets -/
def Tg.slots : Tg → List Nat
  | .nm i => [i]
  | .tp is => is
theorem wipe_set {σ : L2.St} {i : Nat} {o : Option V} : ∀ {vs : List Nat}, i ∈ vs → L2.wipe (σ.set i o) vs = L2.wipe σ vs
  | [], h => by simp at h
  | v :: vs, h => by
    rw [L2.wipe, L2.wipe]
    by_cases hi : i ∈ vs
    · rw [wipe_set hi]
    · rcases List.mem_cons.mp h with e | e
      · subst e
        have key : ∀ ws : List Nat, i ∉ ws → L2.wipe (σ.set i o) ws = (L2.wipe σ ws).set i o := by
          intro ws
          induction ws with
          | nil => intro _; rfl
          | cons w ws ih =>
            intro hw
            rw [List.mem_cons, not_or] at hw
            rw [L2.wipe, L2.wipe, ih hw.2, List.set_comm _ _ hw.1]
        rw [key vs hi, List.set_set]
      · exact absurd e hi
theorem wipe_at {σ : L2.St} : ∀ {vs : List Nat} {i : Nat}, i ∈ vs → (L2.wipe σ vs).set i none = L2.wipe σ vs
  | [], i, h => by simp at h
  | v :: vs, i, h => by
    rw [L2.wipe]
    by_cases e : i = v
    · subst e; rw [List.set_set]
    · rcases List.mem_cons.mp h with z | z
      · exact absurd z e
      · rw [List.set_comm _ _ (Ne.symm e), wipe_at z]
theorem wipe_idem {σ : L2.St} {vs : List Nat} : L2.wipe (L2.wipe σ vs) vs = L2.wipe σ vs := by
  have key : ∀ ws : List Nat, (∀ w ∈ ws, w ∈ vs) → L2.wipe (L2.wipe σ vs) ws = L2.wipe σ vs := by
    intro ws
    induction ws with
    | nil => intro _; rfl
    | cons w ws ih =>
      intro hw
      rw [L2.wipe, ih fun x hx => hw x (List.mem_cons_of_mem _ hx)]
      exact wipe_at (hw w List.mem_cons_self)
  exact key vs fun _ h => h
def tgT (c : Cfg) (g : Tg) : TG := fun v σ H Q => ∃ G ι S x σd σ1, Sim c G ι S H ∧ RepSl c G ι σ σd ∧ Rep c G ι x v ∧ asgT S g x σd = some σ1 ∧
  ∀ σ', RepSl c G ι σ' σ1 → (∀ own, (∀ i ∈ g.slots, i ∈ own) → L2.wipe σ' own = L2.wipe σ own) → Q σ' H
def gsN : List Nat → TGs
  | [] => gNil
  | i :: is => gCons (gName i) (gsN is)
theorem pgs_of {X : Cx} {sc : Scope} {all : Bool} (W : Here c Γ n N sc all X) : ∀ {is : List Nat} {es : List PySem.Expr}, chkT N all sc is es = true → PGs X es (gsN is) ∧ (assignEach es X.env).length = is.length ∧ (assignEach es X.env).findIdx? (·.1) = none
  | [], [], _ => ⟨pgs_nil, rfl, rfl⟩
  | [], _ :: _, h => by simp [chkT] at h
  | _ :: _, [], h => by simp [chkT] at h
  | i :: is, e :: es, h => by
    cases e <;> try (exact absurd (show false = true from h) Bool.false_ne_true)
    rename_i x pos
    simp only [chkT, Bool.and_eq_true, decide_eq_true_eq] at h
    obtain ⟨⟨h1, h2⟩, h3⟩ := h
    obtain ⟨p1, p2, p3⟩ := pgs_of W h3
    obtain ⟨q1, q2⟩ := W.sto h2
    refine ⟨pgs_cons (pg_name (by rw [W.hN]; exact W.nd) (by rw [W.hN]; exact h1) q1 q2) p1 rfl, by show (assignEach es X.env).length + 1 = _; rw [p2]; rfl, ?_⟩
    show List.findIdx? _ ((false, _) :: assignEach es X.env) = none
    rw [List.findIdx?_cons, p3]; rfl
theorem gsN_run : ∀ {is : List Nat} {ds : List D} {vs : List V} {σ : L2.St} {σd σ1 : Sl} {Q : L2.St → Hp → Prop}, setsT is ds σd = some σ1 → Reps c G ι ds vs → RepSl c G ι σ σd →
    (∀ σ', RepSl c G ι σ' σ1 → (∀ own, (∀ i ∈ is, i ∈ own) → L2.wipe σ' own = L2.wipe σ own) → Q σ' H) → gsN is vs σ H Q
  | [], [], vs, σ, σd, σ1, Q, h, r, s, k => by
    rw [setsT] at h; cases h
    rw [Reps] at r
    exact ⟨r, k σ s fun _ _ => rfl⟩
  | [], _ :: _, vs, σ, σd, σ1, Q, h, r, s, k => by simp [setsT] at h
  | _ :: _, [], vs, σ, σd, σ1, Q, h, r, s, k => by simp [setsT] at h
  | i :: is, d :: ds, vs, σ, σd, σ1, Q, h, r, s, k => by
    rw [setsT] at h
    rw [Reps] at r
    obtain ⟨v, r', rfl, q, t⟩ := r
    refine ⟨v, r', rfl, gsN_run (is := is) (σd := σd.set i (some d)) h t (s.set q i) fun σ' rs hw => k σ' rs fun own ho => ?_⟩
    rw [hw own fun j hj => ho j (List.mem_cons_of_mem _ hj)]
    exact wipe_set (ho i List.mem_cons_self)
theorem PG.imp {X : Cx} {e : PySem.Expr} {t t' : TG} (h : PG X e t) (hi : ∀ v σ H Q, t' v σ H Q → t v σ H Q) : PG X e t' := ⟨fun pins s σ H v u Q I r q => h.run pins s σ H v u Q I r (hi v σ H Q q)⟩
theorem s_tg {X : Cx} {sc : Scope} {all : Bool} (W : Here c Γ n N sc all X) {g : Tg} {e : PySem.Expr} (h : chkG N all sc g e = true) : PG X e (tgT c g) := by
  cases g with
  | nm i =>
    cases e <;> try (exact absurd (show false = true from h) Bool.false_ne_true)
    rename_i x pos
    simp only [chkG, Bool.and_eq_true, decide_eq_true_eq] at h
    obtain ⟨q1, q2⟩ := W.sto h.2
    refine PG.imp (pg_name (by rw [W.hN]; exact W.nd) (by rw [W.hN]; exact h.1) q1 q2) fun v σ H Q hq => ?_
    obtain ⟨G, ι, S, x, σd, σ1, sim, rs, rx, ha, k⟩ := hq
    simp only [asgT, Option.some.injEq] at ha
    subst ha
    exact k _ (rs.set rx i) fun own ho => wipe_set (ho i (by simp [Tg.slots]))
  | tp is =>
    cases e <;> try (exact absurd (show false = true from h) Bool.false_ne_true)
    rename_i es k pos
    simp only [chkG] at h
    obtain ⟨p1, p2, p3⟩ := pgs_of W h
    refine PG.imp (pg_tup W.calm p1 p2 p3) fun v σ H Q hq => ?_
    obtain ⟨G, ι, S, x, σd, σ1, sim, rs, rx, ha, k⟩ := hq
    cases x <;> try (cases (show (none : Option Sl) = some σ1 from ha))
    rename_i ds
    rw [Rep] at rx
    obtain ⟨a, vs, rfl, q, t⟩ := rx
    have hl : ∀ {is : List Nat} {ds : List D} {σ σ' : Sl}, setsT is ds σ = some σ' → ds.length = is.length := by
      intro is
      induction is with
      | nil => intro ds σ σ' h; cases ds <;> simp [setsT] at h; rfl
      | cons i is ih => intro ds σ σ' h; cases ds <;> simp only [setsT] at h; cases h; simp [ih h]
    simp only [asgT] at ha
    refine ⟨a, vs, rfl, by rw [W.hK]; exact sqT_sub q sim.sub, by rw [t.length]; exact hl ha, ?_⟩
    exact gsN_run ha t rs k
/-! ### comprehensions -/
theorem Sim.adopt {p : Addr} {vs : List V} {ds : List D} (s : Sim c G ι S H) (h : H p = some (.lst vs)) (hi : p ∉ ι) (hg : G p = none) (r : Reps c G ι ds vs) : Sim c G (ι ++ [p]) (S ++ [.lst ds]) H := by
  refine ⟨s.sub, by simp [s.len], ?_, fun a m => ?_, fun n o a h1 h2 => ?_⟩
  · rw [List.nodup_append]
    exact ⟨s.nd, by simp, fun a m b hb => by rw [List.mem_singleton.mp hb]; exact fun e => hi (e ▸ m)⟩
  · rcases List.mem_append.mp m with m | m
    · exact s.off a m
    · rw [List.mem_singleton.mp m]; exact hg
  · by_cases hn : n < S.length
    · rw [List.getElem?_append_left hn] at h1
      rw [List.getElem?_append_left (by rw [s.len]; exact hn)] at h2
      exact (s.ent n o a h1 h2).ext' (fun _ _ q => q) ⟨[p], rfl⟩ rfl
    · have hn1 : n = S.length := by
        have := (List.getElem?_eq_some_iff.mp h1).1
        simp at this; omega
      subst hn1
      rw [List.getElem?_append_right (Nat.le_refl _), Nat.sub_self] at h1
      rw [← s.len, List.getElem?_append_right (Nat.le_refl _), Nat.sub_self] at h2
      cases h1
      cases h2
      exact ⟨vs, h, Reps.mono (fun _ _ q => q) ⟨[p], rfl⟩ _ _ r⟩
theorem Ext.adopt {p : Addr} (e : Ext G ι H G1 ι1 H1) (h : H p = none) : Ext G ι H G1 (ι1 ++ [p]) H1 := by
  obtain ⟨k, hk⟩ := e.i
  refine ⟨e.g, ⟨k ++ [p], by rw [hk, List.append_assoc]⟩, e.fr, e.gn, fun a m => ?_, e.al⟩
  rcases List.mem_append.mp m with m | m
  · exact e.inn a m
  · rw [List.mem_singleton.mp m]; exact .inr h
theorem s_comp {own : List Nat} {fI : Sl → Sto → R IV} {g : Tg} {fq : Sl → Sto → R Bool} {fe : Sl → Sto → R D} (hw : ∀ i ∈ g.slots, i ∈ own) {σ : L2.St} {H : Hp} {Q : VK}
    (h : tE c (fun σ S => (fI σ S).bind fun iv S1 => (compL S1 iv (fun x S => match asgT S g x (wipeD σ own) with
        | none => .bad
        | some σ1 => (fq σ1 S).bind fun b S => if b then (fe σ1 S).bind fun y S => .ok (some y) S else .ok none S) (fuelOf S1 iv) 0 [] S1).bind fun ds S' => .ok (.ref S'.length) (S' ++ [.lst ds])) σ H Q) :
    tLc (tI c fI) (tgT c g) (tT c fq) (tE c fe) own σ H Q := by
  obtain ⟨G, ι, S, σd, d, S', sim, rs, hf, post⟩ := h
  obtain ⟨iv, S1, h1, hf⟩ := bind_eq.mp hf
  obtain ⟨ds, Sf, h2, hf⟩ := bind_eq.mp hf
  cases hf
  refine ⟨G, ι, S, σd, iv, S1, sim, rs, h1, fun J G1 ι1 H1 e1 s1 iok p np => ?_⟩
  generalize hfun : (fun (x : D) (S : Sto) => match asgT S g x (wipeD σd own) with
        | none => (.bad : R (Option D))
        | some σ1 => (fq σ1 S).bind fun b S => if b then (fe σ1 S).bind fun y S => .ok (some y) S else .ok none S) = F at h2
  obtain ⟨gp, ip⟩ := s1.fresh np
  refine ⟨fun i m H' => ∃ G' ι' S' acc vs, Ext G1 ι1 H1 G' ι' H' ∧ Sim c G' ι' S' H' ∧ H' p = some (.lst vs) ∧ p ∉ ι' ∧ G' p = none ∧ Reps c G' ι' acc vs ∧ compL S1 iv F m i acc S' = .ok ds Sf,
    ⟨fuelOf S1 iv, G1, ι1, S1, [], [], Ext.refl.side np, s1.side gp ip, upd_same, ip, gp, Reps.nil, h2⟩, ?_⟩
  rintro i m H' ⟨G', ι', S', acc, vs, e', s', hp, pi, pg, ra, hc⟩
  cases m with
  | zero => simp [compL] at hc
  | succ m =>
    rw [compL] at hc
    have iok' := iok G' ι' S' H' i e'.g e'.i s'
    split at hc
    · cases hc
    · rename_i hn
      cases hc
      refine .inl ⟨iok'.2 hn, ?_⟩
      refine post _ _ _ _ (e1.trans (e'.adopt np)) (s'.adopt hp pi pg ra) ?_
      rw [Rep]
      exact ⟨p, by rw [← s'.len, List.getElem?_append_right (Nat.le_refl _), Nat.sub_self]; rfl, rfl⟩
    · rename_i x hn
      obtain ⟨o, S2, h3, hc⟩ := bind_eq.mp hc
      obtain ⟨go, yld⟩ := iok'.1 x hn
      refine .inr ⟨go, fun H'' => ∃ G'' ι'' S'' acc vs, Ext G1 ι1 H1 G'' ι'' H'' ∧ Sim c G'' ι'' S'' H'' ∧ H'' p = some (.lst vs) ∧ p ∉ ι'' ∧ G'' p = none ∧ Reps c G'' ι'' acc vs ∧ compL S1 iv F m (i + 1) acc S'' = .ok ds Sf, fun H'' w => ⟨m, Nat.lt_succ_self m, w⟩, fun v H2 y => ?_⟩
      obtain ⟨G2, e2, s2, r2⟩ := yld v H2 y
      rw [← hfun] at h3
      dsimp only at h3
      split at h3
      · cases h3
      · rename_i σ1 ha
        obtain ⟨b, S3, h4, h5⟩ := bind_eq.mp h3
        have rw0 : RepSl c G2 ι' (L2.wipe σ own) (wipeD σd own) := ((rs.ext e1).ext (e'.trans e2)).wipe own
        refine ⟨G2, ι', S', x, wipeD σd own, σ1, s2, rw0, r2, ha, fun σ2 rs2 hw2 => ⟨by rw [hw2 own hw, wipe_idem], ?_⟩⟩
        refine ⟨G2, ι', S', σ1, b, S3, s2, rs2, h4, fun G3 ι3 H3 e3 s3 => ?_⟩
        have e03 := e2.trans e3
        cases b with
        | false =>
          simp only [Bool.false_eq_true, if_false] at h5 ⊢
          cases h5
          refine ⟨G3, ι3, _, acc, vs, e'.trans e03, s3, e03.fr p _ hp pi, fun z => ?_, (e03.gn p (by rw [hp]; simp)).trans pg, ra.ext e03, hc⟩
          rcases e03.inn p z with q | q
          · exact pi q
          · rw [hp] at q; cases q
        | true =>
          simp only [if_true] at h5 ⊢
          obtain ⟨yd, S4, h6, h7⟩ := bind_eq.mp h5
          cases h7
          refine ⟨G3, ι3, S3, σ1, yd, _, s3, rs2.ext e3, h6, fun w G4 ι4 H4 e4 s4 r4 => ?_⟩
          have e04 := e03.trans e4
          simp only [] at hc
          obtain ⟨hz, hc⟩ := ite_bad.mp hc
          have hp4 : H4 p = some (.lst vs) := e04.fr p _ hp pi
          have pi4 : p ∉ ι4 := fun z => by
            rcases e04.inn p z with q | q
            · exact pi q
            · rw [hp] at q; cases q
          have pg4 : G4 p = none := (e04.gn p (by rw [hp]; simp)).trans pg
          refine ⟨vs, hp4, by rw [lim_eq, ra.length]; exact hz, G4, ι4, _, acc ++ [yd], vs ++ [w], (e'.trans e04).side np, s4.side pg4 pi4, upd_same, pi4, pg4, (ra.ext e04).append (Reps.one r4), hc⟩
end
end Py
namespace Py
open PySem PySem.Spec PyProof.Rows L2
section
variable {c : Cfg} {Γ : Gm} {n : Nat} {N : List Str}
theorem eval_meth {o : PySem.Expr} {name : Str} {apos pos : Pos} {args : List PySem.Expr} {env : Env} (h1 : noCall o = true) (hf : methodCallForm (args.length + 0) (backTo pos (starEach args env)) (backToKw pos (keywordEach [] env)) = true) (h2 : (apos.endLine == pos.line) = true) :
    eval (.Call (.Attribute o name apos) args [] pos) env = (do
      let ov ← eval o env
      standAt apos.atName
      let (f, first) ← holding [ov] (getMethod ov name (do return (← importBound o env).getD true))
      callWith pos f first (backTo pos (starEach args env)) (backToKw pos (keywordEach [] env))) := by
  have e : ∀ ov, methodCall o name apos pos env ov (args.length + 0) (backTo pos (starEach args env)) (backToKw pos (keywordEach [] env)) = (do
      let (f, first) ← holding [ov] (getMethod ov name (do return (← importBound o env).getD true))
      callWith pos f first (backTo pos (starEach args env)) (backToKw pos (keywordEach [] env))) := by
    intro ov
    unfold methodCall calleeOf methodCallPos
    rw [hf]
    simp only [Bool.not_true, Bool.false_or, h2, if_true]
    rfl
  show (do
    let ov ← attributeBase o name env (eval o env)
    standAt apos.atName
    methodCall o name apos pos env ov (args.length + 0) (backTo pos (starEach args env)) (backToKw pos (keywordEach [] env))) = _
  rw [call_no h1]
  simp only [e]
theorem few_of {cpos : Pos} {env : Env} {xs : List PySem.Expr} (h : (backTo cpos (starEach xs env)).any (·.1) = false) (hl : xs.length < 20) : methodCallForm (xs.length + 0) (backTo cpos (starEach xs env)) (backToKw cpos (keywordEach [] env)) = true := by
  unfold methodCallForm
  have e1 : (backTo cpos (starEach xs env)).all (fun x => !x.1) = true := by
    rw [List.all_eq_not_any_not]
    simpa using h
  rw [e1]
  show (true && true && decide (xs.length + 0 + 0 < 30)) = true
  rw [Bool.true_and, Bool.true_and, decide_eq_true_eq]
  omega
theorem pw_of {X : Cx} {op : BoolOp} {es : List PySem.Expr} {pos : Pos} {t : TT} (h : PT X (.BoolOp op es pos) t) : PW X (.BoolOp op es pos) t := ⟨fun whole pins s σ H Q I q => h.run pins s σ H Q I q⟩
theorem tE_B {f : Sl → Sto → R D} (hb : ∀ σ S d S', f σ S = .ok d S' → ∃ b, d = .bl b) {σ : L2.St} {H : Hp} {Q : Bool → Hp → Prop} (h : tT c (fun σ S => (f σ S).bind fun d S => optR S (truD S d)) σ H Q) : tE c f σ H fun x H' => ∃ k, x = .bl k ∧ Q k H' := s_test hb h
theorem relv_of {X : Cx} {e : PySem.Expr} {f : Sl → Sto → R D} {g : Sl → Sto → R D} (h : PE X e (tE c f)) (hi : ∀ σ S d S', g σ S = .ok d S' → f σ S = .ok d S') : PE X e (tE c g) :=
  PE.imp h fun σ H Q ⟨G, ι, S, σd, d, S', sim, rs, hf, post⟩ => ⟨G, ι, S, σd, d, S', sim, rs, hi _ _ _ _ hf, post⟩
theorem noStarEs {sc : Scope} : ∀ {a : CE} {as : CEs} {es : List PySem.Expr}, chkEs c.toCst N (.cons a as) sc es = true → ∃ e r, es = e :: r ∧ noStar e = true ∧ chkE c.toCst N a sc e = true ∧ chkEs c.toCst N as sc r = true
  | a, as, [], h => by simp [chkEs] at h
  | a, as, e :: r, h => by
    simp only [chkEs, Bool.and_eq_true] at h
    exact ⟨e, r, rfl, h.1.1, h.1.2, h.2⟩
theorem s_un {X : Cx} {op : UnaryOp} {g : Int → Int} (hop : UnR X (unaryOp op) (rU fun i => .int (g i))) {e : PySem.Expr} {pos : Pos} {fa : Sl → Sto → R D} (h : PE X e (tE c fa)) :
    PE X (.UnaryOp op e pos) (tE c fun σ S => (fa σ S).bind fun x S => (match x with
    | .int i => .ok (.int (g i)) S
    | _ => .bad)) := by
  refine PE.imp (pe_un hop h) fun σ H Q hq => ?_
  obtain ⟨G, ι, S, σd, d, S', sim, rs, hf, post⟩ := hq
  obtain ⟨x, S1, h1, hf⟩ := bind_eq.mp hf
  refine ⟨G, ι, S, σd, x, S1, sim, rs, h1, fun v G1 ι1 H1 e1 s1 r1 => ?_⟩
  split at hf
  · cases hf
    exact ⟨_, r1.int_inv, post _ _ _ _ e1 s1 (by rw [Rep])⟩
  · cases hf
mutual
theorem okE : ∀ (a : CE) {sc : Scope} {all : Bool} {X : Cx} {e : PySem.Expr}, Here c Γ n N sc all X → chkE c.toCst N a sc e = true → PE X e (tE c (evE c.T Γ a))
  | .slot i, sc, all, X, e, W, h => by
    rw [chkE.eq_def] at h; dsimp only at h
    split at h
    · simp only [Bool.and_eq_true, decide_eq_true_eq] at h
      exact s_slot W h.1.1 h.1.2 h.2
    · cases h
  | .non, sc, all, X, e, W, h => by
    rw [chkE.eq_def] at h; dsimp only at h
    split at h
    · exact s_cst pe_non (fun _ _ => rfl) fun _ _ => by rw [Rep]
    · cases h
  | .bl b, sc, all, X, e, W, h => by
    rw [chkE.eq_def] at h; dsimp only at h
    split at h
    · rw [beq_iff_eq] at h
      subst h
      exact s_cst pe_bl (fun _ _ => rfl) fun _ _ => by rw [Rep]
    · cases h
  | .int i, sc, all, X, e, W, h => by
    rw [chkE.eq_def] at h; dsimp only at h
    split at h
    · rw [decide_eq_true_eq] at h
      subst h
      exact s_cst pe_int (fun _ _ => rfl) fun _ _ => by rw [Rep]
    · cases h
  | .str x, sc, all, X, e, W, h => by
    rw [chkE.eq_def] at h; dsimp only at h
    split at h
    · rw [decide_eq_true_eq] at h
      subst h
      exact s_cst pe_str (fun _ _ => rfl) fun _ _ => by rw [Rep]
    · cases h
  | .bin o a b, sc, all, X, e, W, h => by
    rw [chkE.eq_def] at h; dsimp only at h
    split at h
    · simp only [Bool.and_eq_true, decide_eq_true_eq] at h
      obtain ⟨⟨rfl, h1⟩, h2⟩ := h
      exact PE.imp (pe_op (op_binD W.hK) (okE a W h1) (okE b W h2)) fun σ H Q q => s_two q
    · cases h
  | .neg a, sc, all, X, e, W, h => by
    rw [chkE.eq_def] at h; dsimp only at h
    split at h
    · exact s_un un_neg (okE a W h)
    · cases h
  | .inv a, sc, all, X, e, W, h => by
    rw [chkE.eq_def] at h; dsimp only at h
    split at h
    · exact s_un un_inv (okE a W h)
    · cases h
  | .cmp o a b, sc, all, X, e, W, h => by
    rw [chkE.eq_def] at h; dsimp only at h
    split at h
    · simp only [Bool.and_eq_true, decide_eq_true_eq, Bool.not_eq_true'] at h
      obtain ⟨⟨⟨rfl, h0⟩, h1⟩, h2⟩ := h
      exact PE.imp (pe_cmpR (op_cmpD W.hK W.units) (okE a W h1) (okE b W h2) h0) fun σ H Q q => s_two q
    · cases h
  | .chain o a b p d, sc, all, X, e, W, h => by
    rw [chkE.eq_def] at h; dsimp only at h
    split at h
    · simp only [Bool.and_eq_true, decide_eq_true_eq, Bool.not_eq_true'] at h
      obtain ⟨⟨⟨⟨⟨rfl, rfl⟩, h0⟩, h1⟩, h2⟩, h3⟩ := h
      exact PE.imp (pe_chain (op_cmpD W.hK W.units) (op_cmpD W.hK W.units) (okE a W h1) (okE b W h2) (okE d W h3) h0) fun σ H Q q => s_chain q
    · cases h
  | .and a b, sc, all, X, e, W, h => by
    rw [chkE.eq_def] at h; dsimp only at h
    split at h
    · rw [Bool.and_eq_true] at h
      exact PE.imp (pe_and (okE a W h.1) (pe_one (okE b W h.2))) fun σ H Q q => s_and q
    · rw [Bool.and_eq_true] at h
      exact PE.imp (pe_and (okE a W h.1) (okE b W h.2)) fun σ H Q q => s_and q
    · cases h
  | .or a b, sc, all, X, e, W, h => by
    rw [chkE.eq_def] at h; dsimp only at h
    split at h
    · rw [Bool.and_eq_true] at h
      exact PE.imp (pe_or (okE a W h.1) (pe_one (okE b W h.2))) fun σ H Q q => s_or q
    · rw [Bool.and_eq_true] at h
      exact PE.imp (pe_or (okE a W h.1) (okE b W h.2)) fun σ H Q q => s_or q
    · cases h
  | .not a, sc, all, X, e, W, h => by
    rw [chkE.eq_def] at h; dsimp only at h
    split at h
    · refine PE.imp (pe_not (okE a W h)) fun σ H Q hq => ?_
      obtain ⟨G, ι, S, σd, d, S', sim, rs, hf, post⟩ := hq
      obtain ⟨x, S1, h1, hf⟩ := bind_eq.mp hf
      refine ⟨G, ι, S, σd, x, S1, sim, rs, h1, fun v G1 ι1 H1 e1 s1 r1 => ?_⟩
      split at hf
      · cases hf
        exact ⟨_, r1.bl_inv, post _ _ _ _ e1 s1 (by rw [Rep])⟩
      · cases hf
    · cases h
  | .ife t a b, sc, all, X, e, W, h => by
    rw [chkE.eq_def] at h; dsimp only at h
    split at h
    · simp only [Bool.and_eq_true] at h
      exact PE.imp (pe_ifExp (okT t W h.1.1) (okE a W h.1.2) (okE b W h.2)) fun σ H Q q => s_ife q
    · cases h
  | .tup es, sc, all, X, e, W, h => by
    rw [chkE.eq_def] at h; dsimp only at h
    split at h
    · refine PE.imp (pe_tup (okEs es W h)) fun σ H Q hq => ?_
      obtain ⟨G, ι, S, σd, d, S', sim, rs, hf, post⟩ := hq
      obtain ⟨x, S1, h1, hf⟩ := bind_eq.mp hf
      obtain ⟨hz, hf⟩ := ite_bad.mp hf
      cases hf
      refine ⟨G, ι, S, σd, x, _, sim, rs, h1, fun vs G1 ι1 H1 e1 s1 r1 => ⟨by rw [lim_eq, r1.length]; exact hz, fun p hp => (post.mono e1).tup s1 r1 hp⟩⟩
    · cases h
  | .lst es, sc, all, X, e, W, h => by
    rw [chkE.eq_def] at h; dsimp only at h
    split at h
    · refine PE.imp (pe_lst (okEs es W h)) fun σ H Q hq => ?_
      obtain ⟨G, ι, S, σd, d, S', sim, rs, hf, post⟩ := hq
      obtain ⟨x, S1, h1, hf⟩ := bind_eq.mp hf
      obtain ⟨hz, hf⟩ := ite_bad.mp hf
      cases hf
      refine ⟨G, ι, S, σd, x, _, sim, rs, h1, fun vs G1 ι1 H1 e1 s1 r1 => ⟨by rw [lim_eq, r1.length]; exact hz, fun p hp => (post.mono e1).lst s1 r1 hp⟩⟩
    · cases h
  | .call f es, sc, all, X, e, W, h => by
    rw [chkE.eq_def] at h; dsimp only at h
    split at h
    · rename_i x p xs pos
      simp only [Bool.and_eq_true, decide_eq_true_eq] at h
      obtain ⟨⟨⟨⟨h0, rfl⟩, h1⟩, h2⟩, h3⟩ := h
      obtain ⟨a, m1, m2, fd, ps, bi, F⟩ := W.fn f h0
      have hA := okEs es W h3
      have hr : Room n X.A := W.room.mono (Nat.le_succ n)
      cases es with
      | nil =>
        cases xs with
        | cons _ _ => simp [chkEs] at h3
        | nil =>
          refine PE.imp (pe_call0 (E := E0) F hr (W.gl h1) m1 m2 bi .nil pass0 (ndb1 h2)) fun σ H Q q => ?_
          obtain ⟨G, ι, S, σd, d, S', sim, rs, hf, post⟩ := q
          exact ⟨G, ι, S, [], d, S', sim, Reps.nil, hf, post⟩
      | cons b bs =>
        obtain ⟨y, r, rfl, h4, h5, h6⟩ := noStarEs h3
        exact PE.imp (pe_call (E := E0) F hr (W.gl h1) m1 m2 bi .nil pass0 hA (ndb1 h2) (star_cons h4) (noStars pos h6)) fun σ H Q q => s_call q
    · cases h
  | .mk k es, sc, all, X, e, W, h => by
    rw [chkE.eq_def] at h; dsimp only at h
    split at h
    · rename_i x p xs pos
      simp only [Bool.and_eq_true, decide_eq_true_eq] at h
      obtain ⟨⟨⟨⟨h0, rfl⟩, h1⟩, h2⟩, h3⟩ := h
      obtain ⟨a, m1, m2, fd, ps, bi, F⟩ := W.ini k h0
      have hA := okEs es W h3
      cases es with
      | nil =>
        cases xs with
        | cons _ _ => simp [chkEs] at h3
        | nil =>
          refine PE.imp (pe_make0 (E := E0) m2 F W.room (W.gl h1) m1 bi .nil pass0 (ndb1 h2)) fun σ H Q q => ?_
          have q' : tMake (c.CA k) (spG c (Γ (c.T.init k))) [] E0 (tA c (evEs c.T Γ .nil)) σ H Q := s_mk q
          obtain ⟨G, ι, S, σd, ds, S', sim, rs, hf, post⟩ := q'
          cases hf
          exact post [] _ _ _ .refl sim Reps.nil
      | cons b bs =>
        obtain ⟨y, r, rfl, h4, h5, h6⟩ := noStarEs h3
        exact PE.imp (pe_make (E := E0) m2 F W.room (W.gl h1) m1 bi .nil pass0 hA (ndb1 h2) (star_cons h4) (noStars pos h6)) fun σ H Q q => s_mk q
    · cases h
  | .bi b es, sc, all, X, e, W, h => by
    rw [chkE.eq_def] at h; dsimp only at h
    split at h
    · rename_i T
      split at h
      · rename_i a x p y z pz pos
        simp only [Bool.and_eq_true, decide_eq_true_eq] at h
        obtain ⟨⟨⟨⟨⟨⟨rfl, h1⟩, rfl⟩, h2⟩, h3⟩, h4⟩, h5⟩ := h
        have bo := ty_boot h3
        have mi : X.mg "isinstance" = none := W.blt _ (by decide)
        have mt : X.mg (Str.ofString T) = none := W.blt _ (tyNm_mem h3)
        obtain ⟨t1, t2⟩ := tyNm_ok h3
        have ha := okE a W h5
        refine ⟨fun pins s σ H Q I hq => ?_⟩
        obtain ⟨G, ι, S, σd, d, S', sim, rs, hf, post⟩ := hq
        obtain ⟨x, S1, g1, hf⟩ := bind_eq.mp hf
        obtain ⟨y1, S2, g2, g3⟩ := bind_eq.mp g1
        obtain ⟨y2, S3, g4, g5⟩ := bind_eq.mp g3
        cases g4
        cases g5
        obtain ⟨b, S4, g6, g7⟩ := bind_eq.mp hf
        obtain ⟨g8, e4⟩ := optR_ok.mp g6
        subst e4
        cases g7
        obtain ⟨t, g9, g10⟩ := bind_some.mp g8
        have pc : CallR X (.builtin "isinstance") (fun vs H Q => ∃ v G ι S d t b, vs = [v, .ty T] ∧ Sim c G ι S H ∧ Rep c G ι d v ∧ tyD S d = some t ∧ isTyD t T = some b ∧ Q (.bl b) H) := by
          intro pins s σ H vs us Q I r hh
          obtain ⟨v, G, ι, S, d, t, b, rfl, sim, rr, ht, hb, q⟩ := hh
          obtain ⟨u1, u2, rfl, r1, r2⟩ := vals2 r
          have e2 : u2 = .type T := r2
          subst e2
          exact isinst_D W.hK I r1 sim rr ht hb q
        refine (pe_callB pc (W.gl h1) mi boot_isinstance (pa_cons ha (pa_cons (pe_bltn (v := .ty T) (W.gl h2) mt bo rfl t1 t2) pa_nil (star_cons rfl)) (star_cons h4)) (by decide) (by decide) (star_cons h4) rfl).run pins s σ H Q I ?_
        refine ⟨G, ι, S, σd, y1, _, sim, rs, g2, fun v G1 ι1 H1 e1 s1 r1 => ?_⟩
        exact ⟨v, G1, ι1, _, y1, t, b, rfl, s1, r1, g9, g10, post _ _ _ _ e1 s1 (by rw [Rep])⟩
      · cases h
    · rename_i hb
      split at h
      · rename_i a as x p xs pos
        simp only [Bool.and_eq_true, decide_eq_true_eq] at h
        obtain ⟨⟨rfl, h1⟩, h2⟩ := h
        have hA := okEs (.cons a as) W h2
        obtain ⟨y, r, rfl, h4, h5, h6⟩ := noStarEs h2
        have nb : notIs b = true := by
          cases b <;> first
            | rfl
            | exact absurd rfl (hb _)
        exact PE.imp (pe_callV (bi_D W.hK W.calm nb) (biV_form b) (W.gl h1) (W.blt _ (biNm_mem b)) (biV_boot b) hA (biNm_ok b).1 (biNm_ok b).2 (star_cons h4) (noStars pos h6)) fun σ H Q q => s_args q
      · cases h
  | .met m o es, sc, all, X, e, W, h => by
    rw [chkE.eq_def] at h; dsimp only at h
    split at h
    · rename_i y name apos xs cpos
      simp only [Bool.and_eq_true, decide_eq_true_eq] at h
      obtain ⟨⟨⟨⟨⟨rfl, h1⟩, h2⟩, h3⟩, h4⟩, h5⟩ := h
      have ho := okE o W h4
      have hA := okEs es W h5
      cases es with
      | nil =>
        cases xs with
        | cons _ _ => simp [chkEs] at h5
        | nil =>
          cases m with
          | pop =>
            refine PE.imp (pe_bm0 PySem.F.plainAttrs_list PySem.F.slot_list_pop PySem.F.type_list_pop (me_D (c := c) (m := .pop)) ho (call_no h2) h1) fun σ H Q q => ?_
            obtain ⟨G, ι, S, σd, x, S1, sim, rs, g1, g2⟩ := s_met W.hK (m := .pop) q
            refine ⟨G, ι, S, σd, x, S1, sim, rs, g1, fun v G1 ι1 H1 e1 s1 r1 => ?_⟩
            obtain ⟨g3, G2, ι2, S2, σ2, ds, S3, sim2, rs2, g4, g5⟩ := g2 v G1 ι1 H1 e1 s1 r1
            cases g4
            exact ⟨g3, g5 [] _ _ _ .refl sim2 Reps.nil⟩
          | _ =>
            refine ⟨fun pins s σ H Q I hq => ?_⟩
            obtain ⟨G, ι, S, σd, d, S', sim, rs, hf, post⟩ := hq
            obtain ⟨x, S1, g1, hf⟩ := bind_eq.mp hf
            split at hf
            · cases x <;> simp [meD, evEs] at hf
              split at hf <;> cases hf
            · cases hf
      | cons b bs =>
        obtain ⟨y', r, rfl, h6, h7, h8⟩ := noStarEs h5
        have hfew : ((backTo cpos (starEach (y' :: r) X.env)).all (fun x => !x.1) && (backToKw cpos (keywordEach [] X.env)).all (fun x => x.1.isSome)
            && decide ((y' :: r).length + ([] : List Keyword).length + (if ([] : List Keyword).isEmpty then 0 else 1) < 30)) = true := by
          have e1 : (backTo cpos (starEach (y' :: r) X.env)).all (fun x => !x.1) = true := by
            rw [star_cons h6]
            show ((!false) && (backTo cpos (starEach r X.env)).all (fun x => !x.1)) = true
            have := noStars (env := X.env) cpos h8
            rw [Bool.not_false, Bool.true_and, List.all_eq_not_any_not]
            simpa using this
          rw [e1]
          show decide ((y' :: r).length + 0 + 0 < 30) = true
          rw [decide_eq_true_eq]
          omega
        cases m with
        | append => exact PE.imp (pe_bm PySem.F.plainAttrs_list PySem.F.slot_list_append PySem.F.type_list_append (me_D (m := .append)) ho hA (call_no h2) hfew h1 (star_cons h6) (noStars cpos h8)) fun σ H Q q => s_met W.hK q
        | extend => exact PE.imp (pe_bm PySem.F.plainAttrs_list PySem.F.slot_list_extend PySem.F.type_list_extend (me_D (m := .extend)) ho hA (call_no h2) hfew h1 (star_cons h6) (noStars cpos h8)) fun σ H Q q => s_met W.hK q
        | pop => exact PE.imp (pe_bm PySem.F.plainAttrs_list PySem.F.slot_list_pop PySem.F.type_list_pop (me_D (m := .pop)) ho hA (call_no h2) hfew h1 (star_cons h6) (noStars cpos h8)) fun σ H Q q => s_met W.hK q
        | popAt => exact PE.imp (pe_bm PySem.F.plainAttrs_list PySem.F.slot_list_pop PySem.F.type_list_pop (me_D (m := .popAt)) ho hA (call_no h2) hfew h1 (star_cons h6) (noStars cpos h8)) fun σ H Q q => s_met W.hK q
        | insert =>
          refine ⟨fun pins s σ H Q I hq => ?_⟩
          obtain ⟨G, ι, S, σd, d, S', sim, rs, hf, post⟩ := hq
          obtain ⟨x, S1, g1, hf⟩ := bind_eq.mp hf
          split at hf
          · obtain ⟨ds, S2, g2, hf⟩ := bind_eq.mp hf
            cases x <;> simp [meD] at hf
            split at hf <;> cases hf
          · cases hf
    · cases h
  | .om k m o es, sc, all, X, e, W, h => by
    rw [chkE.eq_def] at h; dsimp only at h
    split at h
    · rename_i y name apos xs cpos
      simp only [Bool.and_eq_true, decide_eq_true_eq] at h
      obtain ⟨⟨⟨⟨⟨⟨h0, rfl⟩, h1⟩, h2⟩, h3⟩, h4⟩, h5⟩ := h
      obtain ⟨a, m1, m2, m3, fd, ps, bi, F⟩ := W.mth k m h0
      have hr : Room n X.A := W.room.mono (Nat.le_succ n)
      have ho := okE o W h4
      have hA := okEs es W h5
      cases es with
      | nil =>
        cases xs with
        | cons _ _ => simp [chkEs] at h5
        | nil =>
          refine PE.imp (pe_meth0 (E := E0) ho m1 m2 F hr bi .nil pass0 (eval_meth h2 (few_of (noStars (cs := .nil) cpos h5) h3) h1)) fun σ H Q q => ?_
          obtain ⟨G, ι, S, σd, x, S1, sim, rs, g1, g2⟩ := s_om m3 q
          refine ⟨G, ι, S, σd, x, S1, sim, rs, g1, fun v G1 ι1 H1 e1 s1 r1 => ?_⟩
          obtain ⟨p, dx, fs, e2, e3, e4, G2, ι2, S2, σ2, ds, S3, sim2, rs2, g4, g5⟩ := g2 v G1 ι1 H1 e1 s1 r1
          cases g4
          exact ⟨p, dx, fs, e2, e3, e4, g5 [] _ _ _ .refl sim2 Reps.nil⟩
      | cons b bs =>
        obtain ⟨y', r, rfl, h6, h7, h8⟩ := noStarEs h5
        exact PE.imp (pe_meth (E := E0) ho m1 m2 F hr bi .nil pass0 hA (star_cons h6) (noStars cpos h8) (eval_meth h2 (few_of (noStars (cs := .cons b bs) cpos h5) h3) h1)) fun σ H Q q => s_om m3 q
    · cases h
  | .idx a i, sc, all, X, e, W, h => by
    rw [chkE.eq_def] at h; dsimp only at h
    split at h
    · simp only [Bool.and_eq_true] at h
      exact PE.imp (pe_ix (ix_D W.hK) (okE a W h.1.2) (okE i W h.2) (plain_no h.1.1)) fun σ H Q q => s_two q
    · cases h
  | .slc a lo hi, sc, all, X, e, W, h => by
    rw [chkE.eq_def] at h; dsimp only at h
    split at h
    · simp only [Bool.and_eq_true] at h
      refine PE.imp (pe_slice (sl_D W.hK) (okE a W h.1.1) (okO lo W h.1.2) (okO hi W h.2)) fun σ H Q hq => ?_
      obtain ⟨G, ι, S, σd, d, S', sim, rs, hf, post⟩ := hq
      obtain ⟨x, S1, g1, hf⟩ := bind_eq.mp hf
      obtain ⟨l, S2, g2, hf⟩ := bind_eq.mp hf
      obtain ⟨u, S3, g3, hf⟩ := bind_eq.mp hf
      refine ⟨G, ι, S, σd, x, S1, sim, rs, g1, fun v G1 ι1 H1 e1 s1 r1 => ?_⟩
      refine ⟨G1, ι1, S1, σd, l, S2, s1, rs.ext e1, g2, fun G2 ι2 H2 e2 s2 => ?_⟩
      refine ⟨G2, ι2, S2, σd, u, S3, s2, rs.ext (e1.trans e2), g3, fun G3 ι3 H3 e3 s3 => ?_⟩
      exact ⟨G3, ι3, S3, x, d, S', s3, (r1.ext e2).ext e3, hf, post.mono (e1.trans (e2.trans e3))⟩
    · cases h
  | .fld a f, sc, all, X, e, W, h => by
    rw [chkE.eq_def] at h; dsimp only at h
    split at h
    · simp only [Bool.and_eq_true, decide_eq_true_eq] at h
      obtain ⟨⟨rfl, h1⟩, h2⟩ := h
      exact PE.imp (pe_fld (okE a W h2) (call_no h1)) fun σ H Q q => s_fld W q
    · cases h
  | .comp a g it t own, sc, all, X, e, W, h => by
    rw [chkE.eq_def] at h; dsimp only at h
    split at h
    · rename_i elt tg iter ifs scope pos
      simp only [Bool.and_eq_true] at h
      obtain ⟨⟨⟨⟨⟨⟨h1, h2⟩, h3⟩, h4⟩, h5⟩, h6⟩, h7⟩ := h
      have ok : BlkOk X.N X.env.scope scope own := by rw [W.hN, W.hsc]; exact blkOk_by h1
      have hw : ∀ i ∈ g.slots, i ∈ own.map (·.2) := by
        cases g with
        | nm i => simpa [Tg.slots, chkW] using h5
        | tp is => simpa [Tg.slots, chkW] using h5
      refine PE.imp (pe_lc W.calm (by rw [W.hN]; exact W.nd) (okI it W tg h3) ok (fun s H C cl fp => s_tg (W.blk s H scope C cl fp) h4) (fun s H C cl fp => okQ t (W.blk s H scope C cl fp) h6) (fun s H C cl fp => okE a (W.blk s H scope C cl fp) h7) (setE_no h2)) fun σ H Q q => ?_
      exact s_comp hw q
    · cases h
  | .frz a, sc, all, X, e, W, h => by
    rw [chkE.eq_def] at h; dsimp only at h
    refine PE.imp (okE a W h) fun σ H Q hq => ?_
    obtain ⟨G, ι, S, σd, d, S', sim, rs, hf, post⟩ := hq
    obtain ⟨x, S1, g1, hf⟩ := bind_eq.mp hf
    refine ⟨G, ι, S, σd, x, S1, sim, rs, g1, fun v G1 ι1 H1 e1 s1 r1 => ?_⟩
    obtain ⟨G2, e2, s2, r2⟩ := shut_ok sim e1 s1 r1 hf
    exact post _ _ _ _ e2 s2 r2
theorem okT : ∀ (t : CT) {sc : Scope} {all : Bool} {X : Cx} {e : PySem.Expr}, Here c Γ n N sc all X → chkQt c.toCst N t sc e = true → PT X e (tT c (evT c.T Γ t))
  | .val a, sc, all, X, e, W, h => by
    rw [chkQt.eq_def] at h; dsimp only at h
    split at h
    · rename_i o x y
      rw [chkE.eq_def] at h; dsimp only at h
      split at h
      · simp only [Bool.and_eq_true, decide_eq_true_eq, Bool.not_eq_true'] at h
        obtain ⟨⟨⟨rfl, h0⟩, h1⟩, h2⟩ := h
        refine PT.imp (pt_cmpR (op_cmpD W.hK W.units) (okE x W h1) (okE y W h2) h0) fun σ H Q q => ?_
        exact s_two (tE_B (fun σ S d S' hh => by
          obtain ⟨_, _, _, hh⟩ := bind_eq.mp hh
          obtain ⟨_, _, _, hh⟩ := bind_eq.mp hh
          exact cmpD_bl hh) q)
      · cases h
    · rename_i o x y p z
      rw [chkE.eq_def] at h; dsimp only at h
      split at h
      · simp only [Bool.and_eq_true, decide_eq_true_eq, Bool.not_eq_true'] at h
        obtain ⟨⟨⟨⟨⟨rfl, rfl⟩, h0⟩, h1⟩, h2⟩, h3⟩ := h
        refine PT.imp (pt_chain (op_cmpD W.hK W.units) (op_cmpD W.hK W.units) (okE x W h1) (okE y W h2) (okE z W h3) h0) fun σ H Q q => ?_
        exact s_chain (tE_B (fun σ S d S' hh => by
          obtain ⟨_, _, _, hh⟩ := bind_eq.mp hh
          obtain ⟨_, _, _, hh⟩ := bind_eq.mp hh
          obtain ⟨_, _, _, hh⟩ := bind_eq.mp hh
          split at hh
          · obtain ⟨_, _, _, hh⟩ := bind_eq.mp hh
            exact cmpD_bl hh
          · cases hh; exact ⟨_, rfl⟩
          · cases hh) q)
      · cases h
    · rw [Bool.and_eq_true] at h
      exact PT.imp (pt_truth (okE a W h.2) (is_plain h.1)) fun σ H Q q => s_val W.hK q
  | .and a b, sc, all, X, e, W, h => by
    rw [chkQt.eq_def] at h; dsimp only at h
    split at h
    · rw [Bool.and_eq_true] at h
      exact PT.imp (PW.pt (pw_and (okT a W h.1) (pw_and1 (okT b W h.2)))) fun σ H Q q => s_tand q
    · rw [Bool.and_eq_true] at h
      exact PT.imp (PW.pt (pw_and (okT a W h.1) (pw_of (okT b W h.2)))) fun σ H Q q => s_tand q
    · cases h
  | .or a b, sc, all, X, e, W, h => by
    rw [chkQt.eq_def] at h; dsimp only at h
    split at h
    · rw [Bool.and_eq_true] at h
      exact PT.imp (PW.pt (pw_or (okT a W h.1) (pw_or1 (okT b W h.2)))) fun σ H Q q => s_tor q
    · rw [Bool.and_eq_true] at h
      exact PT.imp (PW.pt (pw_or (okT a W h.1) (pw_of (okT b W h.2)))) fun σ H Q q => s_tor q
    · cases h
  | .not a, sc, all, X, e, W, h => by
    rw [chkQt.eq_def] at h; dsimp only at h
    split at h
    · refine PT.imp (pt_not (okT a W h)) fun σ H Q hq => ?_
      obtain ⟨G, ι, S, σd, d, S', sim, rs, hf, post⟩ := hq
      obtain ⟨x, S1, g1, hf⟩ := bind_eq.mp hf
      cases hf
      exact ⟨G, ι, S, σd, x, _, sim, rs, g1, post⟩
    · cases h
theorem okQ : ∀ (t : CQ) {sc : Scope} {all : Bool} {X : Cx} {es : List PySem.Expr}, Here c Γ n N sc all X → chkQ c.toCst N t sc es = true → PTs X es (tT c (evQ c.T Γ t))
  | .none, sc, all, X, es, W, h => by
    rw [chkQ.eq_def] at h; dsimp only at h
    split at h
    · refine ⟨fun pins s σ H Q I hq => ?_⟩
      obtain ⟨G, ι, S, σd, d, S', sim, rs, hf, post⟩ := hq
      cases hf
      exact pts_nil.run pins s σ H Q I (post _ _ _ .refl sim)
    · cases h
  | .some t, sc, all, X, es, W, h => by
    rw [chkQ.eq_def] at h; dsimp only at h
    split at h
    · exact pts_one (okT t W h)
    · cases h
theorem okEs : ∀ (as : CEs) {sc : Scope} {all : Bool} {X : Cx} {es : List PySem.Expr}, Here c Γ n N sc all X → chkEs c.toCst N as sc es = true → PA X es (tA c (evEs c.T Γ as))
  | .nil, sc, all, X, es, W, h => by
    rw [chkEs.eq_def] at h; dsimp only at h
    split at h
    · refine ⟨fun pos pins s σ H Q I hq => ?_⟩
      obtain ⟨G, ι, S, σd, d, S', sim, rs, hf, post⟩ := hq
      cases hf
      exact pa_nil.run pos pins s σ H Q I (post _ _ _ _ .refl sim Reps.nil)
    · cases h
  | .cons a as, sc, all, X, es, W, h => by
    obtain ⟨e, r, rfl, h4, h5, h6⟩ := noStarEs h
    have h1 := okE a W h5
    have h2 := okEs as W h6
    refine ⟨fun pos pins s σ H Q I hq => ?_⟩
    exact (pa_cons h1 h2 (star_cons h4)).run pos pins s σ H Q I (s_cons hq)
theorem okO : ∀ (o : CO) {sc : Scope} {all : Bool} {X : Cx} {e : Option PySem.Expr}, Here c Γ n N sc all X → chkO c.toCst N o sc e = true → PO X e (tO c (evO c.T Γ o))
  | .none, sc, all, X, e, W, h => by
    rw [chkO.eq_def] at h; dsimp only at h
    split at h
    · refine ⟨fun pins s σ H Q I hq => ?_⟩
      obtain ⟨G, ι, S, σd, d, S', sim, rs, hf, post⟩ := hq
      cases hf
      exact po_none.run pins s σ H Q I (post _ _ _ .refl sim)
    · cases h
  | .some a, sc, all, X, e, W, h => by
    rw [chkO.eq_def] at h; dsimp only at h
    split at h
    · have h1 := okE a W h
      refine ⟨fun pins s σ H Q I hq => ?_⟩
      refine (po_some h1).run pins s σ H Q I ?_
      obtain ⟨G, ι, S, σd, d, S', sim, rs, hf, post⟩ := hq
      obtain ⟨x, S1, g1, hf⟩ := bind_eq.mp hf
      refine ⟨G, ι, S, σd, x, S1, sim, rs, g1, fun v G1 ι1 H1 e1 s1 r1 => ?_⟩
      unfold partI at hf
      split at hf
      · cases hf
        exact ⟨_, r1.int_inv, post _ _ _ e1 s1⟩
      · cases hf
    · cases h
theorem okI : ∀ (it : IT) {sc : Scope} {all : Bool} {X : Cx} {e : PySem.Expr}, Here c Γ n N sc all X → ∀ tg, chkI c.toCst N it sc tg e = true → PI X tg e (tI c (evI c.T Γ it))
  | .val a, sc, all, X, e, W, tg, h => by
    rw [chkI.eq_def] at h; dsimp only at h
    rw [Bool.and_eq_true] at h
    have h1 := okE a W h.2
    refine ⟨fun pins s σ H R I hq => ?_⟩
    obtain ⟨G, ι, S, σd, iv, S', sim, rs, hf, post⟩ := hq
    obtain ⟨x, S1, g1, hf⟩ := bind_eq.mp hf
    split at hf
    · rename_i xs hx
      cases hf
      by_cases ht : isTup x = true
      · refine (pi_tup h1).run pins s σ H R I ⟨G, ι, S, σd, x, _, sim, rs, g1, fun v G1 ι1 H1 e1 s1 r1 => ?_⟩
        cases x <;> simp [isTup] at ht
        have r1' := r1
        rw [Rep] at r1
        obtain ⟨p, vs, rfl, q, t⟩ := r1
        refine ⟨p, rfl, ⟨vs, by rw [W.hK]; exact sqT_sub q s1.sub⟩, post _ _ _ _ e1 s1 ?_⟩
        rw [W.hK]
        exact iv_tup q t
      · refine (pi_list h1).run pins s σ H R I ⟨G, ι, S, σd, x, _, sim, rs, g1, fun v G1 ι1 H1 e1 s1 r1 => ?_⟩
        have ht' : isTup x = false := by simpa using ht
        obtain ⟨p, vs0, rfl, _, _⟩ := s1.seq r1 hx
        obtain ⟨vs, q, _⟩ := rep_list ht' r1 (fun _ _ z => z) ⟨[], by simp⟩ s1 hx
        refine ⟨p, rfl, ⟨vs, by rw [W.hK]; exact q⟩, post _ _ _ _ e1 s1 ?_⟩
        rw [W.hK]
        exact iv_list fun G2 ι2 S2 H2 g hk s2 ys hy => rep_list ht' r1 g hk s2 hy
    · cases hf
  | .rng a, sc, all, X, e, W, tg, h => by
    rw [chkI.eq_def] at h; dsimp only at h
    split at h
    · simp only [Bool.and_eq_true, decide_eq_true_eq] at h
      obtain ⟨⟨⟨rfl, h1⟩, h2⟩, h3⟩ := h
      have hm : X.mg "range" = none := W.blt _ (by decide)
      refine ⟨fun pins s σ H R I hq => ?_⟩
      obtain ⟨G, ι, S, σd, iv, S', sim, rs, hf, post⟩ := hq
      obtain ⟨x, S1, g1, hf⟩ := bind_eq.mp hf
      split at hf
      · obtain ⟨hb, hf⟩ := ite_bad.mp hf
        cases hf
        refine (pi_range1 (W.gl h1) hm (pa_cons (okE a W h3) pa_nil (star_cons h2)) (star_cons h2)).run pins s σ H R I ⟨G, ι, S, σd, _, _, sim, rs, g1, fun v G1 ι1 H1 e1 s1 r1 => ?_⟩
        exact ⟨_, by rw [r1.int_inv], hb.1, hb.2, post _ _ _ _ e1 s1 iv_rng⟩
      · cases hf
    · cases h
  | .rng2 a b, sc, all, X, e, W, tg, h => by
    rw [chkI.eq_def] at h; dsimp only at h
    split at h
    · simp only [Bool.and_eq_true, decide_eq_true_eq] at h
      obtain ⟨⟨⟨⟨⟨rfl, h1⟩, h2⟩, h3⟩, h4⟩, h5⟩ := h
      have hm : X.mg "range" = none := W.blt _ (by decide)
      refine ⟨fun pins s σ H R I hq => ?_⟩
      obtain ⟨G, ι, S, σd, iv, S', sim, rs, hf, post⟩ := hq
      obtain ⟨x, S1, g1, hf⟩ := bind_eq.mp hf
      obtain ⟨y, S2, g2, hf⟩ := bind_eq.mp hf
      split at hf
      · obtain ⟨hb, hf⟩ := ite_bad.mp hf
        cases hf
        refine (pi_range2 (W.gl h1) hm (pa_cons (okE a W h4) (pa_cons (okE b W h5) pa_nil (star_cons h3)) (star_cons h2)) (by rw [star_cons h2, star_cons h3]; rfl) (by rw [star_cons h3]; rfl)).run pins s σ H R I ⟨G, ι, S, σd, _, _, sim, rs, g1, fun v G1 ι1 H1 e1 s1 r1 => ?_⟩
        refine ⟨G1, ι1, _, σd, _, _, s1, rs.ext e1, g2, fun w G2 ι2 H2 e2 s2 r2 => ?_⟩
        exact ⟨_, _, by rw [(r1.ext e2).int_inv, r2.int_inv], hb, post _ _ _ _ (e1.trans e2) s2 iv_rng⟩
      · cases hf
    · cases h
  | .enum a, sc, all, X, e, W, tg, h => by
    rw [chkI.eq_def] at h; dsimp only at h
    split at h
    · simp only [Bool.and_eq_true, decide_eq_true_eq] at h
      obtain ⟨⟨⟨rfl, h1⟩, h2⟩, h3⟩ := h
      have hm : X.mg "enumerate" = none := W.blt _ (by decide)
      refine ⟨fun pins s σ H R I hq => ?_⟩
      obtain ⟨G, ι, S, σd, iv, S', sim, rs, hf, post⟩ := hq
      obtain ⟨x, S1, g1, hf⟩ := bind_eq.mp hf
      split at hf
      · rename_i xs hx
        obtain ⟨ht, hf⟩ := ite_bad.mp hf
        cases hf
        refine (pi_enum (W.gl h1) hm (pa_cons (okE a W h3) pa_nil (star_cons h2)) (star_cons h2)).run pins s σ H R I ⟨G, ι, S, σd, _, _, sim, rs, g1, fun v G1 ι1 H1 e1 s1 r1 => ?_⟩
        obtain ⟨p, vs0, rfl, _, _⟩ := s1.seq r1 hx
        obtain ⟨vs, q, _⟩ := rep_list ht r1 (fun _ _ z => z) ⟨[], by simp⟩ s1 hx
        refine ⟨p, vs, rfl, by rw [W.hK]; exact q, post _ _ _ _ e1 s1 ?_⟩
        rw [W.hK]
        exact iv_enum (seqAt_list ht r1)
      · cases hf
    · cases h
  | .zip a b, sc, all, X, e, W, tg, h => by
    rw [chkI.eq_def] at h; dsimp only at h
    split at h
    · simp only [Bool.and_eq_true, decide_eq_true_eq] at h
      obtain ⟨⟨⟨⟨⟨rfl, h1⟩, h2⟩, h3⟩, h4⟩, h5⟩ := h
      have hm : X.mg "zip" = none := W.blt _ (by decide)
      refine ⟨fun pins s σ H R I hq => ?_⟩
      obtain ⟨G, ι, S, σd, iv, S', sim, rs, hf, post⟩ := hq
      obtain ⟨x, S1, g1, hf⟩ := bind_eq.mp hf
      obtain ⟨y, S2, g2, hf⟩ := bind_eq.mp hf
      split at hf
      · rename_i xs ys hx hy
        obtain ⟨ht, hf⟩ := ite_bad.mp hf
        cases hf
        refine (RZ.pi_zipA (W.gl h1) hm (pa_cons (okE a W h4) (pa_cons (okE b W h5) pa_nil (star_cons h3)) (star_cons h2)) (star_cons h2) (by rw [star_cons h3]; rfl)).run pins s σ H R I ⟨G, ι, S, σd, _, _, sim, rs, g1, fun v G1 ι1 H1 e1 s1 r1 => ?_⟩
        refine ⟨G1, ι1, _, σd, _, _, s1, rs.ext e1, g2, fun w G2 ι2 H2 e2 s2 r2 => ?_⟩
        have r1' := r1.ext e2
        obtain ⟨p, _, rfl, _, _⟩ := s2.seq r1' hx
        obtain ⟨p', _, rfl, _, _⟩ := s2.seq r2 hy
        cases hb : isTup x with
        | false =>
          rw [hb] at ht
          obtain ⟨vs, q, _⟩ := rep_list hb r1' (fun _ _ z => z) ⟨[], by simp⟩ s2 hx
          obtain ⟨ws, q', _⟩ := rep_list ht.symm r2 (fun _ _ z => z) ⟨[], by simp⟩ s2 hy
          refine ⟨p, p', vs, ws, rfl, .inl ⟨by rw [W.hK]; exact q, by rw [W.hK]; exact q', post _ _ _ _ (e1.trans e2) s2 ?_⟩⟩
          rw [W.hK]
          exact iv_zip (seqAt_list hb r1') (seqAt_list ht.symm r2) (fun _ _ => Iff.rfl) (fun _ _ _ _ => Iff.rfl) (fun _ _ => Iff.rfl)
        | true =>
          rw [hb] at ht
          cases x <;> try (cases hb)
          cases y <;> try (cases ht)
          obtain ⟨vs, q, _⟩ := seqAt_tup r1' _ _ _ _ (fun _ _ z => z) ⟨[], by simp⟩ s2 _ rfl
          obtain ⟨ws, q', _⟩ := seqAt_tup r2 _ _ _ _ (fun _ _ z => z) ⟨[], by simp⟩ s2 _ rfl
          refine ⟨p, p', vs, ws, rfl, .inr ⟨by rw [W.hK]; exact q, by rw [W.hK]; exact q', post _ _ _ _ (e1.trans e2) s2 ?_⟩⟩
          rw [W.hK]
          exact iv_zip (seqAt_tup r1') (seqAt_tup r2) (fun _ _ => Iff.rfl) (fun _ _ _ _ => Iff.rfl) (fun _ _ => Iff.rfl)
      · cases hf
    · cases h
  | .rev a, sc, all, X, e, W, tg, h => by
    rw [chkI.eq_def] at h; dsimp only at h
    split at h
    · simp only [Bool.and_eq_true, decide_eq_true_eq] at h
      obtain ⟨⟨⟨rfl, h1⟩, h2⟩, h3⟩ := h
      have hm : X.mg "reversed" = none := W.blt _ (by decide)
      refine ⟨fun pins s σ H R I hq => ?_⟩
      obtain ⟨G, ι, S, σd, iv, S', sim, rs, hf, post⟩ := hq
      obtain ⟨x, S1, g1, hf⟩ := bind_eq.mp hf
      split at hf
      · rename_i xs hx
        cases hf
        refine (RT.pi_revA (W.gl h1) hm (okE a W h3) (star_cons h2)).run pins s σ H R I ⟨G, ι, S, σd, _, _, sim, rs, g1, fun v G1 ι1 H1 e1 s1 r1 => ?_⟩
        obtain ⟨p, _, rfl, _, _⟩ := s1.seq r1 hx
        cases hb : isTup x with
        | false =>
          obtain ⟨vs, q, t⟩ := rep_list hb r1 (fun _ _ z => z) ⟨[], by simp⟩ s1 hx
          refine ⟨p, vs, rfl, .inl ⟨by rw [W.hK]; exact q, post _ _ _ _ e1 s1 ?_⟩⟩
          rw [W.hK, t.length]
          exact iv_rev (seqAt_list hb r1) (fun _ _ => Iff.rfl) (fun _ _ _ _ => Iff.rfl) (fun _ _ => Iff.rfl)
        | true =>
          cases x <;> try (cases hb)
          obtain ⟨vs, q, t⟩ := seqAt_tup r1 _ _ _ _ (fun _ _ z => z) ⟨[], by simp⟩ s1 _ hx
          refine ⟨p, vs, rfl, .inr ⟨by rw [W.hK]; exact q, post _ _ _ _ e1 s1 ?_⟩⟩
          rw [W.hK, t.length]
          exact iv_rev (seqAt_tup r1) (fun _ _ => Iff.rfl) (fun _ _ _ _ => Iff.rfl) (fun _ _ => Iff.rfl)
      · cases hf
    · cases h
end
end
end Py
namespace Py
open PySem PySem.Spec PyProof.Rows L2
section
variable {c : Cfg} {Γ : Gm} {n : Nat} {N : List Str}
theorem passNo {X : Cx} (h : X.xe = fun _ _ => False) : PassesOwn (model X.prog X.w) X.A X.env X.xe := by
  rw [h]; exact PassesOwn.never
theorem s_seq {f : Sl → Sto → R Fl} {g : Sl → Sto → R Fl} {Z : Ends} {σ : L2.St} {H : Hp} (h : tS c (fun σ S => (f σ S).bind fun fl S => (match fl with
    | .next σ' => g σ' S
    | .ret d => .ok (.ret d) S
    | .brk σ' => .ok (.brk σ') S
    | .cnt σ' => .ok (.cnt σ') S)) Z σ H) : tSeq (tS c f) (tS c g) Z σ H := by
  obtain ⟨G, ι, S, σd, fl, S', sim, rs, hf, post⟩ := h
  obtain ⟨x, S1, h1, hf⟩ := bind_eq.mp hf
  refine ⟨G, ι, S, σd, x, S1, sim, rs, h1, ?_⟩
  cases x with
  | next σ' => exact fun σ2 G1 ι1 H1 e1 s1 r1 => ⟨G1, ι1, S1, σ', fl, S', s1, r1, hf, post.mono e1⟩
  | ret d => cases hf; exact post
  | brk σ' => cases hf; exact post
  | cnt σ' => cases hf; exact post
/-- a for -/
theorem s_for {fI : Sl → Sto → R IV} {g : Tg} {fb : Sl → Sto → R Fl} {Z : Ends} {σ : L2.St} {H : Hp} (h : tS c (fun σ S => (fI σ S).bind fun iv S1 => forL iv (fun x σ S => match asgT S g x σ with
      | none => .bad
      | some σ1 => fb σ1 S) (fuelOf S1 iv) 0 σ S1) Z σ H) : tFor (tI c fI) (tgT c g) (tS c fb) Z σ H := by
  obtain ⟨G, ι, S, σd, fl, S', sim, rs, hf, post⟩ := h
  obtain ⟨iv, S1, h1, hf⟩ := bind_eq.mp hf
  refine ⟨G, ι, S, σd, iv, S1, sim, rs, h1, fun J G1 ι1 H1 e1 s1 iok => ?_⟩
  generalize hfun : (fun (x : D) (σ : Sl) (S : Sto) => match asgT S g x σ with
      | none => (.bad : R Fl)
      | some σ1 => fb σ1 S) = F at hf
  refine ⟨fun i m σ' H' => ∃ G' ι' Sc σc, Ext G1 ι1 H1 G' ι' H' ∧ Sim c G' ι' Sc H' ∧ RepSl c G' ι' σ' σc ∧ forL iv F m i σc Sc = .ok fl S', ⟨fuelOf S1 iv, G1, ι1, S1, σd, .refl, s1, rs.ext e1, hf⟩, ?_⟩
  rintro i m σ' H' ⟨G', ι', Sc, σc, e', s', r', hc⟩
  cases m with
  | zero => simp [forL] at hc
  | succ m =>
    rw [forL] at hc
    have iok' := iok G' ι' Sc H' i e'.g e'.i s'
    split at hc
    · cases hc
    · rename_i hn
      cases hc
      exact .inl ⟨iok'.2 hn, post _ _ _ _ (e1.trans e') s' r'⟩
    · rename_i x hn
      obtain ⟨go, yld⟩ := iok'.1 x hn
      refine .inr ⟨go, fun σ'' H'' => ∃ G'' ι'' Sc σc, Ext G1 ι1 H1 G'' ι'' H'' ∧ Sim c G'' ι'' Sc H'' ∧ RepSl c G'' ι'' σ'' σc ∧ forL iv F m (i + 1) σc Sc = .ok fl S', fun σ'' H'' w => ⟨m, Nat.lt_succ_self m, w⟩, fun v H2 y => ?_⟩
      obtain ⟨G2, e2, s2, r2⟩ := yld v H2 y
      obtain ⟨o, S3, h3, hc⟩ := bind_eq.mp hc
      rw [← hfun] at h3
      dsimp only at h3
      split at h3
      · cases h3
      · rename_i σ1 ha
        refine ⟨G2, ι', Sc, x, σc, σ1, s2, r'.ext e2, r2, ha, fun σ2 rs2 _ => ?_⟩
        refine ⟨G2, ι', Sc, σ1, o, S3, s2, rs2, h3, ?_⟩
        cases o with
        | next σ3 => exact fun σ4 G4 ι4 H4 e4 s4 r4 => ⟨G4, ι4, S3, σ3, e'.trans (e2.trans e4), s4, r4, hc⟩
        | cnt σ3 => exact fun σ4 G4 ι4 H4 e4 s4 r4 => ⟨G4, ι4, S3, σ3, e'.trans (e2.trans e4), s4, r4, hc⟩
        | brk σ3 =>
          cases hc
          exact fun σ4 G4 ι4 H4 e4 s4 r4 => post _ _ _ _ (e1.trans (e'.trans (e2.trans e4))) s4 r4
        | ret d =>
          cases hc
          exact fun v G4 ι4 H4 e4 s4 r4 => post _ _ _ _ (e1.trans (e'.trans (e2.trans e4))) s4 r4
/-- a while -/
theorem s_whl {ft : Sl → Sto → R Bool} {fb : Sl → Sto → R Fl} {fuel : Nat} {Z : Ends} {σ : L2.St} {H : Hp} (h : tS c (fun σ S => whlL ft fb fuel σ S) Z σ H) : tWhile (tT c ft) (tS c fb) Z σ H := by
  obtain ⟨G, ι, S, σd, fl, S', sim, rs, hf, post⟩ := h
  refine ⟨fun m σ' H' => ∃ G' ι' Sc σc, Ext G ι H G' ι' H' ∧ Sim c G' ι' Sc H' ∧ RepSl c G' ι' σ' σc ∧ whlL ft fb m σc Sc = .ok fl S', ⟨fuel, G, ι, S, σd, .refl, sim, rs, hf⟩, ?_⟩
  rintro m σ' H' ⟨G', ι', Sc, σc, e', s', r', hc⟩
  cases m with
  | zero => simp [whlL] at hc
  | succ m =>
    rw [whlL] at hc
    obtain ⟨b, S1, h1, hc⟩ := bind_eq.mp hc
    refine ⟨G', ι', Sc, σc, b, S1, s', r', h1, fun G1 ι1 H1 e1 s1 => ?_⟩
    cases b with
    | true =>
      simp only [if_true] at hc ⊢
      obtain ⟨o, S3, h3, hc⟩ := bind_eq.mp hc
      refine ⟨fun σ'' H'' => ∃ G'' ι'' Sc σc, Ext G ι H G'' ι'' H'' ∧ Sim c G'' ι'' Sc H'' ∧ RepSl c G'' ι'' σ'' σc ∧ whlL ft fb m σc Sc = .ok fl S', fun σ'' H'' w => ⟨m, Nat.lt_succ_self m, w⟩, ?_⟩
      refine ⟨G1, ι1, S1, σc, o, S3, s1, r'.ext e1, h3, ?_⟩
      cases o with
      | next σ3 => exact fun σ4 G4 ι4 H4 e4 s4 r4 => ⟨G4, ι4, S3, σ3, e'.trans (e1.trans e4), s4, r4, hc⟩
      | cnt σ3 => exact fun σ4 G4 ι4 H4 e4 s4 r4 => ⟨G4, ι4, S3, σ3, e'.trans (e1.trans e4), s4, r4, hc⟩
      | brk σ3 =>
        cases hc
        exact fun σ4 G4 ι4 H4 e4 s4 r4 => post _ _ _ _ (e'.trans (e1.trans e4)) s4 r4
      | ret d =>
        cases hc
        exact fun v G4 ι4 H4 e4 s4 r4 => post _ _ _ _ (e'.trans (e1.trans e4)) s4 r4
    | false =>
      simp only [Bool.false_eq_true, if_false] at hc ⊢
      cases hc
      exact post _ _ _ _ (e'.trans e1) s1 (r'.ext e1)
theorem s_sfld {X : Cx} {sc : Scope} {all : Bool} (W : Here c Γ n N sc all X) {f : Nat} {fa fv : Sl → Sto → R D} {Z : Ends} {σ : L2.St} {H : Hp}
    (h : tS c (fun σ S => (fv σ S).bind fun v S => (fa σ S).bind fun x S => (sfldD c.T f x v S).bind fun _ S => .ok (.next σ) S) Z σ H) : sFld X.K (tE c fa) (tE c fv) (c.nm f) Z σ H := by
  obtain ⟨G, ι, S, σd, fl, S', sim, rs, hf, post⟩ := h
  obtain ⟨z, S1, h1, hf⟩ := bind_eq.mp hf
  obtain ⟨x, S2, h2, hf⟩ := bind_eq.mp hf
  obtain ⟨_, S3, h3, hf⟩ := bind_eq.mp hf
  cases hf
  refine ⟨G, ι, S, σd, z, S1, sim, rs, h1, fun v G1 ι1 H1 e1 s1 r1 => ?_⟩
  refine ⟨G1, ι1, S1, σd, x, S2, s1, rs.ext e1, h2, fun w G2 ι2 H2 e2 s2 r2 => ?_⟩
  cases x with
  | ref m =>
    simp only [sfldD] at h3
    split at h3
    · rename_i k vs hS
      rw [Rep] at r2
      obtain ⟨a, ha, rfl⟩ := r2
      obtain ⟨dx, ws, hH, t, l⟩ := s2.ent m _ a hS ha
      split at h3
      · rename_i j hj
        obtain ⟨c1, c2⟩ := W.cls k f (fld_mem hj)
        have hl : (c.fs k ws).length ≤ ws.length := by
          unfold Cfg.fs
          rw [List.length_zip]
          exact Nat.min_le_right _ _
        split at h3
        · rename_i hjl
          obtain ⟨hjl, h9⟩ := hjl
          cases h3
          obtain ⟨e3, s3⟩ := s2.put (u := .ins (c.CA k) dx (putF (c.nm f) v (c.fs k ws))) (o := .ins k (vs.set j z)) ha fun H' e => ⟨dx, ws.set j v, by rw [e]; unfold Cfg.fs; rw [putF_set W.inj hj (by rw [t.length]; exact hjl) l], t.set j (r1.ext e2), by simpa using l⟩
          refine ⟨a, c.CA k, dx, _, rfl, hH, c1, c2, by rw [t.length] at hl; omega, post _ _ _ _ (e1.trans (e2.trans e3)) s3 (rs.ext (e1.trans (e2.trans e3)))⟩
        · obtain ⟨⟨hjl, h9⟩, h3⟩ := ite_bad.mp h3
          cases h3
          rw [hjl, ← t.length] at hj
          obtain ⟨e3, s3⟩ := s2.put (u := .ins (c.CA k) dx (putF (c.nm f) v (c.fs k ws))) (o := .ins k (vs ++ [z])) ha fun H' e => ⟨dx, ws ++ [v], by rw [e]; unfold Cfg.fs; rw [putF_new W.inj hj], t.append (Reps.one (r1.ext e2)), by
            have := (List.getElem?_eq_some_iff.mp (fldIx_get hj).1).1
            simp; omega⟩
          refine ⟨a, c.CA k, dx, _, rfl, hH, c1, c2, by rw [t.length] at hl; omega, post _ _ _ _ (e1.trans (e2.trans e3)) s3 (rs.ext (e1.trans (e2.trans e3)))⟩
      · cases h3
    · cases h3
  | _ => cases h3
theorem asg_sub {x y : PySem.Expr} {tp : Pos} {env : Env} (h : noSlice y = true) : ∀ v, assign (.Subscript x y tp) env v = (do
      let ov ← holding [v] (eval x env)
      let iv ← holding [v, ov] (eval y env)
      standAt tp
      holding [v, ov, iv] (setItem ov iv v)
      release [v, ov, iv] []) := by
  intro v
  cases y <;> first | rfl | exact absurd h Bool.false_ne_true
theorem sw_cell {elt : PySem.Expr} {gs : List Comprehension} {scope : Scope} {pos py : Pos} {y : Str} {l : Nat} {env : Env} (hy : env.scope.names.lookup y = some .cell) : swapsWith (.ListComp elt gs scope pos) (some (.Name y py)) l env = pure false := by
  have ky : env.kindOf y = some .cell := hy
  unfold swapsWith
  simp only [ky]
  cases env.blockKind <;> rfl
theorem s_frz {a : CE} {σ : L2.St} {H : Hp} {Q : VK} (hq : tE c (evE c.T Γ (.frz a)) σ H Q) : tE c (evE c.T Γ a) σ H Q := by
  obtain ⟨G, ι, S, σd, d, S', sim, rs, hf, post⟩ := hq
  obtain ⟨x, S1, g1, hf⟩ := bind_eq.mp hf
  refine ⟨G, ι, S, σd, x, S1, sim, rs, g1, fun v G1 ι1 H1 e1 s1 r1 => ?_⟩
  obtain ⟨G2, e2, s2, r2⟩ := shut_ok sim e1 s1 r1 hf
  exact post _ _ _ _ e2 s2 r2
theorem setComp {sc : Scope} {all : Bool} {X : Cx} (W : Here c Γ n N sc all X) {i : Nat} {x : Str} {py spos : Pos} {elt : PySem.Expr} {gs : List Comprehension} {scope : Scope} {pos : Pos} (h1 : N[i]? = some x) (hl : X.env.scope.names.lookup x = some .local)
    (hsw : swapsWith (.ListComp elt gs scope pos) (some (.Name x py)) spos.line X.env = pure true) : ∀ a : CE, chkE c.toCst N a sc (.ListComp elt gs scope pos) = true →
    ∃ te, PS X (.Assign [.Name x py] (.ListComp elt gs scope pos) spos) (tAsg te (gName i)) ∧ ∀ σ H Q, tE c (evE c.T Γ a) σ H Q → te σ H Q
  | .frz a, h => by
    obtain ⟨te, p1, p2⟩ := setComp W h1 hl hsw a h
    exact ⟨te, p1, fun σ H Q q => p2 σ H Q (s_frz q)⟩
  | .comp a g it t own, h => by
    rw [chkE.eq_def] at h; dsimp only at h
    split at h
    · rename_i elt tg iter ifs scope pos hh
      cases hh
      simp only [Bool.and_eq_true] at h
      obtain ⟨⟨⟨⟨⟨⟨g1, g2⟩, g3⟩, g4⟩, g5⟩, g6⟩, g7⟩ := h
      have ok : BlkOk X.N X.env.scope scope own := by rw [W.hN, W.hsc]; exact blkOk_by g1
      have hw : ∀ i ∈ g.slots, i ∈ own.map (·.2) := by
        cases g with
        | nm i => simpa [Tg.slots, chkW] using g5
        | tp is => simpa [Tg.slots, chkW] using g5
      exact ⟨_, ps_setLc W.calm (by rw [W.hN]; exact W.nd) (by rw [W.hN]; exact h1) hl hsw (okI it W tg g3) ok (fun s H C cl fp => s_tg (W.blk s H scope C cl fp) g4) (fun s H C cl fp => okQ t (W.blk s H scope C cl fp) g6) (fun s H C cl fp => okE a (W.blk s H scope C cl fp) g7) (setE_no g2), fun σ H Q q => s_comp hw q⟩
    · cases h
  | .slot _, h => absurd h (by simp [chkE])
  | .non, h => absurd h (by simp [chkE])
  | .bl _, h => absurd h (by simp [chkE])
  | .int _, h => absurd h (by simp [chkE])
  | .str _, h => absurd h (by simp [chkE])
  | .bin .., h => absurd h (by simp [chkE])
  | .neg _, h => absurd h (by simp [chkE])
  | .inv _, h => absurd h (by simp [chkE])
  | .cmp .., h => absurd h (by simp [chkE])
  | .chain .., h => absurd h (by simp [chkE])
  | .and .., h => absurd h (by simp [chkE])
  | .or .., h => absurd h (by simp [chkE])
  | .not _, h => absurd h (by simp [chkE])
  | .ife .., h => absurd h (by simp [chkE])
  | .tup _, h => absurd h (by simp [chkE])
  | .lst _, h => absurd h (by simp [chkE])
  | .call .., h => absurd h (by simp [chkE])
  | .mk .., h => absurd h (by simp [chkE])
  | .bi b es, h => absurd (show false = true by cases b <;> cases es <;> first | exact h | (rename_i x y; cases y <;> exact h)) Bool.false_ne_true
  | .met .., h => absurd h (by simp [chkE])
  | .om .., h => absurd h (by simp [chkE])
  | .idx .., h => absurd h (by simp [chkE])
  | .slc .., h => absurd h (by simp [chkE])
  | .fld .., h => absurd h (by simp [chkE])
theorem chk_setcomp {sc : Scope} {elt : PySem.Expr} {gs : List Comprehension} {scope : Scope} {pos : Pos} : ∀ a : CE, chkE c.toCst N a sc (.SetComp elt gs scope pos) = false
  | .frz a => by rw [chkE.eq_def]; exact chk_setcomp a
  | .bi b es => by cases b <;> cases es <;> first | rfl | (rename_i x y; cases y <;> rfl)
  | .slot _ => rfl
  | .non => rfl
  | .bl _ => rfl
  | .int _ => rfl
  | .str _ => rfl
  | .bin .. => rfl
  | .neg _ => rfl
  | .inv _ => rfl
  | .cmp .. => rfl
  | .chain .. => rfl
  | .and .. => rfl
  | .or .. => rfl
  | .not _ => rfl
  | .ife .. => rfl
  | .tup _ => rfl
  | .lst _ => rfl
  | .call .. => rfl
  | .mk .. => rfl
  | .met .. => rfl
  | .om .. => rfl
  | .idx .. => rfl
  | .slc .. => rfl
  | .fld .. => rfl
  | .comp .. => rfl
theorem chk_dictcomp {sc : Scope} {k v : PySem.Expr} {gs : List Comprehension} {scope : Scope} {pos : Pos} : ∀ a : CE, chkE c.toCst N a sc (.DictComp k v gs scope pos) = false
  | .frz a => by rw [chkE.eq_def]; exact chk_dictcomp a
  | .bi b es => by cases b <;> cases es <;> first | rfl | (rename_i x y; cases y <;> rfl)
  | .slot _ => rfl
  | .non => rfl
  | .bl _ => rfl
  | .int _ => rfl
  | .str _ => rfl
  | .bin .. => rfl
  | .neg _ => rfl
  | .inv _ => rfl
  | .cmp .. => rfl
  | .chain .. => rfl
  | .and .. => rfl
  | .or .. => rfl
  | .not _ => rfl
  | .ife .. => rfl
  | .tup _ => rfl
  | .lst _ => rfl
  | .call .. => rfl
  | .mk .. => rfl
  | .met .. => rfl
  | .om .. => rfl
  | .idx .. => rfl
  | .slc .. => rfl
  | .fld .. => rfl
  | .comp .. => rfl
mutual
theorem okS : ∀ (a : CS) {sc : Scope} {X : Cx} {s : PySem.Stmt}, Here c Γ n N sc true X → chkS c.toCst N a sc s = true → PS X s (tS c (evS c.T Γ a))
  | .pass, sc, X, s, W, h => by
    rw [chkS.eq_def] at h; dsimp only at h
    split at h
    · refine PS.imp ps_pass fun D σ H hq => ?_
      obtain ⟨G, ι, S, σd, fl, S', sim, rs, hf, post⟩ := hq
      cases hf
      exact post _ _ _ _ .refl sim rs
    · refine PS.imp ps_doc fun D σ H hq => ?_
      obtain ⟨G, ι, S, σd, fl, S', sim, rs, hf, post⟩ := hq
      cases hf
      exact post _ _ _ _ .refl sim rs
    · cases h
  | .ret a, sc, X, s, W, h => by
    rw [chkS.eq_def] at h; dsimp only at h
    split at h
    · refine PS.imp (ps_ret (okE a W h)) fun D σ H hq => ?_
      obtain ⟨G, ι, S, σd, fl, S', sim, rs, hf, post⟩ := hq
      obtain ⟨x, S1, h1, hf⟩ := bind_eq.mp hf
      cases hf
      exact ⟨G, ι, S, σd, x, _, sim, rs, h1, post⟩
    · cases h
  | .retN, sc, X, s, W, h => by
    rw [chkS.eq_def] at h; dsimp only at h
    split at h
    · refine PS.imp ps_retN fun D σ H hq => ?_
      obtain ⟨G, ι, S, σd, fl, S', sim, rs, hf, post⟩ := hq
      cases hf
      exact post _ _ _ _ .refl sim (by rw [Rep])
    · cases h
  | .expr a, sc, X, s, W, h => by
    rw [chkS.eq_def] at h; dsimp only at h
    split at h
    · rw [Bool.and_eq_true] at h
      refine PS.imp (ps_expr (okE a W h.2) (swaps_no h.1)) fun D σ H hq => ?_
      obtain ⟨G, ι, S, σd, fl, S', sim, rs, hf, post⟩ := hq
      obtain ⟨x, S1, h1, hf⟩ := bind_eq.mp hf
      cases hf
      exact ⟨G, ι, S, σd, x, _, sim, rs, h1, fun v G1 ι1 H1 e1 s1 r1 => post _ _ _ _ e1 s1 (rs.ext e1)⟩
    · cases h
  | .set i a, sc, X, s, W, h => by
    rw [chkS.eq_def] at h; dsimp only at h
    split at h
    · rename_i x py e spos
      simp only [Bool.and_eq_true, decide_eq_true_eq] at h
      obtain ⟨⟨⟨h1, h2⟩, h3⟩, h4⟩ := h
      obtain ⟨q1, q2⟩ := W.sto h2
      have fin : ∀ {D : Ends} {σ : L2.St} {H : Hp}, tS c (evS c.T Γ (.set i a)) D σ H → tAsg (tE c (evE c.T Γ a)) (gName i) D σ H := by
        intro D σ H hq
        obtain ⟨G, ι, S, σd, fl, S', sim, rs, hf, post⟩ := hq
        obtain ⟨x, S1, g1, hf⟩ := bind_eq.mp hf
        cases hf
        exact ⟨G, ι, S, σd, x, _, sim, rs, g1, fun v G1 ι1 H1 e1 s1 r1 => post _ _ _ _ e1 s1 ((rs.ext e1).set r1 i)⟩
      by_cases hn : noComp e = true
      · exact PS.imp (ps_set (by rw [W.hN]; exact W.nd) (by rw [W.hN]; exact h1) q1 (okE a W h4) (swaps_no hn) q2) fun D σ H q => fin q
      · rw [Bool.or_eq_true] at h3
        rcases h3 with h3 | h3
        · exact absurd h3 hn
        · split at h3
          · rename_i hl
            split at h3
            · rename_i elt gs scope pos
              simp only [Bool.and_eq_true, Bool.not_eq_true'] at h3
              refine ⟨fun pins s σ H D I hq => ?_⟩
              obtain ⟨te, p1, p2⟩ := setComp W h1 (by rw [W.hsc]; exact hl) (sw_true I.ok.kind (by rw [W.hsc]; exact hl) h3.1 h3.2) a h4
              exact p1.run pins s σ H D I (by
                obtain ⟨G, ι, S, σd, d, S', sim, rs, g1, g2⟩ := fin hq
                exact p2 _ _ _ ⟨G, ι, S, σd, d, S', sim, rs, g1, g2⟩)
            · cases h3
          · rename_i hl
            have hc : sc.names.lookup x = some .cell := by
              unfold stoB at h2
              split at h2
              · rename_i e; exact absurd e hl
              · rename_i e; exact e
              · cases h2
            cases e <;> try (exact absurd rfl hn)
            · exact PS.imp (ps_set (by rw [W.hN]; exact W.nd) (by rw [W.hN]; exact h1) q1 (okE a W h4) (sw_cell (by rw [W.hsc]; exact hc)) q2) fun D σ H q => fin q
            · exact absurd h4 (by rw [chk_setcomp a]; exact Bool.false_ne_true)
            · exact absurd h4 (by rw [chk_dictcomp a]; exact Bool.false_ne_true)
    · cases h
  | .tset is a, sc, X, s, W, h => by
    rw [chkS.eq_def] at h; dsimp only at h
    split at h
    · rename_i es k pos e spos
      have h' : noComp e = true ∧ chkT N true sc is es = true ∧ chkE c.toCst N a sc e = true ∧ (∀ vs k p, e ≠ .Tuple vs k p) := by
        split at h
        · cases h
        · cases h
        · rename_i ne1 ne2
          simp only [Bool.and_eq_true] at h
          exact ⟨h.1.1, h.1.2, h.2, ne1⟩
      obtain ⟨h1, h2, h3, h4⟩ := h'
      have hw : swappedStores [.Tuple es k pos] e X.env = pure none := by
        cases e <;> first
          | rfl
          | (exact absurd rfl (h4 _ _ _))
      refine PS.imp (ps_asg (okE a W h3) (s_tg W (g := .tp is) h2) (show swapsWith e (some (.Tuple es k pos)) spos.line X.env = pure false from swaps_no h1) hw rfl) fun D σ H hq => ?_
      obtain ⟨G, ι, S, σd, fl, S', sim, rs, hf, post⟩ := hq
      obtain ⟨x, S1, g1, hf⟩ := bind_eq.mp hf
      refine ⟨G, ι, S, σd, x, S1, sim, rs, g1, fun v G1 ι1 H1 e1 s1 r1 => ?_⟩
      split at hf
      · rename_i σ' ha
        cases hf
        exact ⟨G1, ι1, _, x, σd, σ', s1, rs.ext e1, r1, ha, fun σ'' rs'' _ => post _ _ _ _ e1 s1 rs''⟩
      · cases hf
    · cases h
  | .sub o i a, sc, X, s, W, h => by
    rw [chkS.eq_def] at h; dsimp only at h
    split at h
    · rename_i x y tp e spos
      simp only [Bool.and_eq_true] at h
      obtain ⟨⟨⟨⟨h1, h2⟩, h3⟩, h4⟩, h5⟩ := h
      refine PS.imp (ps_asg (okE a W h5) (pg_sub (okE o W h3) (okE i W h4) (set_D (c := c)) (asg_sub h2)) (show swapsWith e (some (.Subscript x y tp)) spos.line X.env = pure false from swaps_no h1) (by cases e <;> rfl) rfl) fun D σ H hq => ?_
      obtain ⟨G, ι, S, σd, fl, S', sim, rs, hf, post⟩ := hq
      obtain ⟨z, S1, g1, hf⟩ := bind_eq.mp hf
      obtain ⟨x1, S2, g2, hf⟩ := bind_eq.mp hf
      obtain ⟨y1, S3, g3, hf⟩ := bind_eq.mp hf
      obtain ⟨_, S4, g4, hf⟩ := bind_eq.mp hf
      cases hf
      refine ⟨G, ι, S, σd, z, S1, sim, rs, g1, fun v G1 ι1 H1 e1 s1 r1 => ?_⟩
      refine ⟨G1, ι1, S1, σd, x1, S2, s1, rs.ext e1, g2, fun w G2 ι2 H2 e2 s2 r2 => ?_⟩
      refine ⟨G2, ι2, S2, σd, y1, S3, s2, rs.ext (e1.trans e2), g3, fun u G3 ι3 H3 e3 s3 r3 => ?_⟩
      exact ⟨G3, ι3, S3, x1, y1, z, _, s3, r2.ext e3, r3, (r1.ext e2).ext e3, g4, fun G4 ι4 H4 e4 s4 => post _ _ _ _ (e1.trans (e2.trans (e3.trans e4))) s4 (rs.ext (e1.trans (e2.trans (e3.trans e4))))⟩
    · cases h
  | .sfld o f a, sc, X, s, W, h => by
    rw [chkS.eq_def] at h; dsimp only at h
    split at h
    · simp only [Bool.and_eq_true, decide_eq_true_eq] at h
      obtain ⟨⟨⟨h1, rfl⟩, h3⟩, h4⟩ := h
      exact PS.imp (ps_fld (okE o W h3) (okE a W h4) (swaps_no h1)) fun D σ H q => s_sfld W q
    · cases h
  | .aug i p a, sc, X, s, W, h => by
    rw [chkS.eq_def] at h; dsimp only at h
    split at h
    · simp only [Bool.and_eq_true, decide_eq_true_eq] at h
      obtain ⟨⟨⟨rfl, h1⟩, h2⟩, h3⟩ := h
      obtain ⟨q1, q2⟩ := W.sto h2
      refine PS.imp (ps_aug (by rw [W.hN]; exact W.nd) (by rw [W.hN]; exact h1) q1 (okE a W h3) (op_augD (c := c)) q2) fun D σ H hq => ?_
      obtain ⟨G, ι, S, σd, fl, S', sim, rs, hf, post⟩ := hq
      simp only [evS] at hf
      split at hf
      · rename_i x hx
        obtain ⟨y, S1, g1, hf⟩ := bind_eq.mp hf
        obtain ⟨z, S2, g2, hf⟩ := bind_eq.mp hf
        cases hf
        obtain ⟨v, hv, rv⟩ := rs.2 i x hx
        refine ⟨v, hv, G, ι, S, σd, y, S1, sim, rs, g1, fun w G1 ι1 H1 e1 s1 r1 => ?_⟩
        exact ⟨G1, ι1, S1, x, y, z, _, s1, rv.ext e1, r1, g2, fun u G2 ι2 H2 e2 s2 r2 => post _ _ _ _ (e1.trans e2) s2 ((rs.ext (e1.trans e2)).set r2 i)⟩
      · cases hf
    · cases h
  | .ite t a b, sc, X, s, W, h => by
    rw [chkS.eq_def] at h; dsimp only at h
    split at h
    · simp only [Bool.and_eq_true] at h
      refine PS.imp (ps_if (okT t W h.1.1) (okB a W h.1.2) (okB b W h.2)) fun D σ H hq => ?_
      obtain ⟨G, ι, S, σd, fl, S', sim, rs, hf, post⟩ := hq
      obtain ⟨x, S1, g1, hf⟩ := bind_eq.mp hf
      refine ⟨G, ι, S, σd, x, S1, sim, rs, g1, fun G1 ι1 H1 e1 s1 => ?_⟩
      cases x with
      | true => exact iteT ⟨G1, ι1, S1, σd, fl, S', s1, rs.ext e1, hf, post.mono e1⟩
      | false => exact iteF ⟨G1, ι1, S1, σd, fl, S', s1, rs.ext e1, hf, post.mono e1⟩
    · cases h
  | .for_ g it b, sc, X, s, W, h => by
    rw [chkS.eq_def] at h; dsimp only at h
    split at h
    · simp only [Bool.and_eq_true] at h
      obtain ⟨⟨⟨h1, h2⟩, h3⟩, h4⟩ := h
      exact PS.imp (ps_for (passNo W.no) W.calm (okI it W _ h2) (s_tg W h3) (okB b W h4) (setE_no h1)) fun D σ H q => s_for q
    · cases h
  | .whl fuel t b, sc, X, s, W, h => by
    rw [chkS.eq_def] at h; dsimp only at h
    split at h
    · rw [Bool.and_eq_true] at h
      exact PS.imp (ps_while (passNo W.no) (okT t W h.1) (okB b W h.2)) fun D σ H q => s_whl q
    · cases h
  | .brk, sc, X, s, W, h => by
    rw [chkS.eq_def] at h; dsimp only at h
    split at h
    · refine PS.imp ps_break fun D σ H hq => ?_
      obtain ⟨G, ι, S, σd, fl, S', sim, rs, hf, post⟩ := hq
      cases hf
      exact post _ _ _ _ .refl sim rs
    · cases h
  | .cnt, sc, X, s, W, h => by
    rw [chkS.eq_def] at h; dsimp only at h
    split at h
    · refine PS.imp ps_continue fun D σ H hq => ?_
      obtain ⟨G, ι, S, σd, fl, S', sim, rs, hf, post⟩ := hq
      cases hf
      exact post _ _ _ _ .refl sim rs
    · cases h
theorem okB : ∀ (a : CB) {sc : Scope} {X : Cx} {s : List PySem.Stmt}, Here c Γ n N sc true X → chkB c.toCst N a sc s = true → PSs X s (tS c (evB c.T Γ a))
  | .nil, sc, X, s, W, h => by
    rw [chkB.eq_def] at h; dsimp only at h
    split at h
    · refine PSs.imp pss_nil fun D σ H hq => ?_
      obtain ⟨G, ι, S, σd, fl, S', sim, rs, hf, post⟩ := hq
      cases hf
      exact post _ _ _ _ .refl sim rs
    · cases h
  | .cons a b, sc, X, s, W, h => by
    rw [chkB.eq_def] at h; dsimp only at h
    split at h
    · rw [Bool.and_eq_true] at h
      exact PSs.imp (pss_cons (okS a W h.1) (okB b W h.2)) fun D σ H q => s_seq q
    · cases h
end
end
end Py
/-! Defs by levels. -/
namespace Py
open PySem PySem.Spec PyProof.Rows L2
section
variable {c : Cfg} {G : Hp} {ι : List Addr} {H : Hp} {S : Sto}
theorem repSl_start {N : List Str} {ds : List D} {vs : List V} {m : Nat} (r : Reps c G ι ds vs) (hm : m = N.length) : RepSl c G ι (start N vs) (ds.map some ++ List.replicate (m - ds.length) none) := by
  have hl := r.length
  refine ⟨by simp [L2.start, hl, hm], fun i d e => ?_⟩
  by_cases hi : i < ds.length
  · rw [List.getElem?_append_left (by simpa using hi), List.getElem?_map] at e
    cases q : ds[i]? with
    | none => rw [q] at e; cases e
    | some d' =>
      rw [q] at e
      cases e
      obtain ⟨v, h1, h2⟩ := r.get q
      refine ⟨v, ?_, h2⟩
      unfold L2.start
      rw [List.getElem?_append_left (by simpa [hl] using hi), List.getElem?_map, h1]; rfl
  · rw [List.getElem?_append_right (by simpa using hi), List.getElem?_replicate] at e
    split at e <;> cases e
/-- a body's ends are the call's -/
theorem s_body {Γ : Gm} {cf : CF} {N : List Str} {vs : List V} {Q : VK} (hm : cf.n = N.length) {E : XK} (h : spG c (runF c.T Γ cf) vs H Q E) : tS c (evB c.T Γ cf.body) { nx := fun _ H' => Q .non H', rt := Q } (start N vs) H := by
  obtain ⟨G, ι, S, ds, d, S', sim, rs, hf, post⟩ := h
  unfold runF at hf
  obtain ⟨hp, hf⟩ := ite_bad.mp hf
  split at hf
  · rename_i σ' S1 hb
    refine ⟨G, ι, S, _, _, S1, sim, repSl_start rs hm, hb, fun σ2 G1 ι1 H1 e1 s1 r1 => ?_⟩
    split at hf
    · cases hf
      exact post _ _ _ _ e1 s1 (by rw [Rep])
    · obtain ⟨G2, ι2, e2, s2, r2⟩ := shutK_ok (v := .non) sim e1 s1 (by rw [Rep]) hf
      exact post _ _ _ _ e2 s2 r2
  · rename_i d1 S1 hb
    refine ⟨G, ι, S, _, _, S1, sim, repSl_start rs hm, hb, fun v G1 ι1 H1 e1 s1 r1 => ?_⟩
    split at hf
    · cases hf
      exact post _ _ _ _ e1 s1 r1
    · obtain ⟨G2, ι2, e2, s2, r2⟩ := shutK_ok sim e1 s1 r1 hf
      exact post _ _ _ _ e2 s2 r2
  · cases hf
  · split at hf
    · cases hf
    · unfold shutX at hf
      split at hf <;> cases hf
  · cases hf
theorem spG_len {Γ : Gm} {cf : CF} {ps : List Str} (hp : cf.ps = ps.length) : ∀ vs H Q E, spG c (runF c.T Γ cf) vs H Q E → vs.length = ps.length := by
  intro vs H Q E h
  obtain ⟨G, ι, S, ds, d, S', sim, rs, hf, post⟩ := h
  unfold runF at hf
  obtain ⟨h1, _⟩ := ite_bad.mp hf
  rw [rs.length, h1, hp]
end
/-- what stands at a def's address -/
structure Def1 (c : Cfg) (a : Addr) (fd : FuncData) (ps : List Str) (cf : CF) : Prop where
  ex : ∃ (x qual : Str) (st : PySem.Stmt) (N : List Str), Fun c.K x qual st a fd ∧ FnScope N ps (defScope st) ∧ chkB c.toCst N cf.body (defScope st) (defBody st) = true ∧ cf.n = N.length
  bi : Binds c.K fd ps []
  ps : cf.ps = ps.length
structure Prog (c : Cfg) (P : Nat → Option CF) (mg : Str → Option Value) : Prop where
  blt : ∀ x ∈ bnames, mg x = none
  cls : ∀ k f : Nat, fldIx (c.T.flds k) f ≠ none → Cls c.K (c.CA k) ∧ NoAttr c.K (c.CA k) (c.nm f)
  inj : c.inj
  fn : ∀ f : Nat, c.isg f = true → ∃ a fd ps cf, P f = some cf ∧ mg (c.fnm f) = some (.ref a) ∧ PySem.W.keepIn c.K (.ref a) = true ∧ Def1 c a fd ps cf
  ini : ∀ k : Nat, c.isc k = true → ∃ a fd ps cf, P (c.T.init k) = some cf ∧ mg (c.cnm k) = some (.ref (c.CA k)) ∧ Mk c.K (c.CA k) a ∧ Def1 c a fd ps cf
  mth : ∀ k m : Nat, c.ism k m = true → ∃ a fd ps cf, P (c.T.mth k m) = some cf ∧ Cls c.K (c.CA k) ∧ Meth c.K (c.CA k) (c.mnm m) a ∧ (∀ f ∈ c.T.flds k, c.nm f ≠ c.mnm m) ∧ Def1 c a fd ps cf
section
variable {c : Cfg} {P : Nat → Option CF} {mg : Str → Option Value} {pr : Program} {w : World} {base : Heap}
theorem sem_succ {k f : Nat} {cf : CF} (h : P f = some cf) : sem c.T P (k + 1) f = runF c.T (sem c.T P k) cf := by
  funext ds S
  rw [sem]
  simp only [h]
theorem fn_zero {a : Addr} {fd : FuncData} {ps : List Str} {f : Nat} : FnOk pr w c.K mg base CX0 0 a fd ps (spG c (sem c.T P 0 f)) := by
  refine ⟨fun vs H Q E h => ?_, fun A outer s H args us vs Q E _ _ _ _ h => ?_⟩
  · obtain ⟨G, ι, S, ds, d, S', sim, rs, hf, post⟩ := h
    cases hf
  · obtain ⟨G, ι, S, ds, d, S', sim, rs, hf, post⟩ := h
    cases hf
/-- a def by its body, where the defs that it calls keep their promises -/
theorem fn_step {n : Nat} {Γ : Gm} {a : Addr} {fd : FuncData} {ps : List Str} {cf : CF} (W : Prog c P mg)
    (hfn : ∀ f : Nat, c.isg f = true → ∃ a, mg (c.fnm f) = some (.ref a) ∧ PySem.W.keepIn c.K (.ref a) = true ∧ ∃ fd ps, Binds c.K fd ps [] ∧ FnOk pr w c.K mg base CX0 n a fd ps (spG c (Γ f)))
    (hin : ∀ k : Nat, c.isc k = true → ∃ a, mg (c.cnm k) = some (.ref (c.CA k)) ∧ Mk c.K (c.CA k) a ∧ ∃ fd ps, Binds c.K fd ps [] ∧ FnOk pr w c.K mg base CX0 n a fd ps (spG c (Γ (c.T.init k))))
    (hmt : ∀ k m : Nat, c.ism k m = true → ∃ a, Cls c.K (c.CA k) ∧ Meth c.K (c.CA k) (c.mnm m) a ∧ (∀ f ∈ c.T.flds k, c.nm f ≠ c.mnm m) ∧ ∃ fd ps, Binds c.K fd ps [] ∧ FnOk pr w c.K mg base CX0 n a fd ps (spG c (Γ (c.T.mth k m))))
    (F : Def1 c a fd ps cf) : FnOk pr w c.K mg base CX0 (n + 2) a fd ps (spG c (runF c.T Γ cf)) := by
  obtain ⟨x, qual, st, N, F1, F2, F3, F4⟩ := F.ex
  refine F1.ok F2 (spG_len F.ps) fun cdv A outer s H vs Q E hr h => ?_
  have here : Here c Γ n N (defScope st) true (cxOf CX0 pr w c.K mg base N qual (defScope st) a cdv A outer s H E).nox :=
    { hK := rfl, calm := rfl, hN := rfl, nd := F2.nd, hsc := rfl, hall := fun _ _ => rfl, room := hr, no := rfl, blt := W.blt, fn := hfn, ini := hin, mth := hmt, cls := W.cls, inj := W.inj }
  exact ⟨_, okB cf.body here F3, s_body F4 h⟩
/-- all defs, by levels -/
theorem fn_all (W : Prog c P mg) : ∀ k : Nat,
    (∀ f : Nat, c.isg f = true → ∃ a, mg (c.fnm f) = some (.ref a) ∧ PySem.W.keepIn c.K (.ref a) = true ∧ ∃ fd ps, Binds c.K fd ps [] ∧ FnOk pr w c.K mg base CX0 (2 * k) a fd ps (spG c (sem c.T P k f))) ∧
    (∀ j : Nat, c.isc j = true → ∃ a, mg (c.cnm j) = some (.ref (c.CA j)) ∧ Mk c.K (c.CA j) a ∧ ∃ fd ps, Binds c.K fd ps [] ∧ FnOk pr w c.K mg base CX0 (2 * k) a fd ps (spG c (sem c.T P k (c.T.init j)))) ∧
    (∀ j m : Nat, c.ism j m = true → ∃ a, Cls c.K (c.CA j) ∧ Meth c.K (c.CA j) (c.mnm m) a ∧ (∀ f ∈ c.T.flds j, c.nm f ≠ c.mnm m) ∧ ∃ fd ps, Binds c.K fd ps [] ∧ FnOk pr w c.K mg base CX0 (2 * k) a fd ps (spG c (sem c.T P k (c.T.mth j m))))
  | 0 => by
    refine ⟨fun f hf => ?_, fun j hj => ?_, fun j m hj => ?_⟩
    · obtain ⟨a, fd, ps, cf, _, h2, h3, h4⟩ := W.fn f hf
      exact ⟨a, h2, h3, fd, ps, h4.bi, fn_zero⟩
    · obtain ⟨a, fd, ps, cf, _, h2, h3, h4⟩ := W.ini j hj
      exact ⟨a, h2, h3, fd, ps, h4.bi, fn_zero⟩
    · obtain ⟨a, fd, ps, cf, _, h2, h3, h4, h5⟩ := W.mth j m hj
      exact ⟨a, h2, h3, h4, fd, ps, h5.bi, fn_zero⟩
  | k + 1 => by
    obtain ⟨i1, i2, i3⟩ := fn_all W k
    refine ⟨fun f hf => ?_, fun j hj => ?_, fun j m hj => ?_⟩
    · obtain ⟨a, fd, ps, cf, h1, h2, h3, h4⟩ := W.fn f hf
      refine ⟨a, h2, h3, fd, ps, h4.bi, ?_⟩
      rw [sem_succ h1]
      exact fn_step W i1 i2 i3 h4
    · obtain ⟨a, fd, ps, cf, h1, h2, h3, h4⟩ := W.ini j hj
      refine ⟨a, h2, h3, fd, ps, h4.bi, ?_⟩
      rw [sem_succ h1]
      exact fn_step W i1 i2 i3 h4
    · obtain ⟨a, fd, ps, cf, h1, h2, h3, h4, h5⟩ := W.mth j m hj
      refine ⟨a, h2, h3, h4, fd, ps, h5.bi, ?_⟩
      rw [sem_succ h1]
      exact fn_step W i1 i2 i3 h5
/-- the law's def -/
theorem fn_law (W : Prog c P mg) {k f : Nat} {a : Addr} {fd : FuncData} {ps : List Str} {cf : CF} (h1 : P f = some cf) (F : Def1 c a fd ps cf) : FnOk pr w c.K mg base CX0 (2 * k + 2) a fd ps (spG c (sem c.T P (k + 1) f)) := by
  obtain ⟨i1, i2, i3⟩ := fn_all (pr := pr) (w := w) (base := base) W k
  rw [sem_succ h1]
  exact fn_step W i1 i2 i3 F
/-- the law's script -/
theorem spG_law {g : List D → Sto → R D} {H : Hp} {a : Addr} {ns : List Int} (hS : SqL c.K H a (ns.map V.int)) {S' : Sto} (hg : g [.lst (ns.map .int)] [] = .ok (.bl true) S') : spG c g [.ref a] H (fun v _ => v = .bl true) fun _ _ _ => False := by
  refine ⟨H, [], [], [.lst (ns.map .int)], .bl true, S', ⟨fun _ _ h => h, rfl, List.nodup_nil, fun a h => by simp at h, fun n o a h => by simp at h⟩, ?_, hg, fun v G' ι' H' _ _ r => r.bl_inv⟩
  refine Reps.one ?_
  rw [Rep]
  exact ⟨a, _, rfl, hS, Reps.of_ints ns⟩
end
end Py
/-! From the heap behind the top to the defs' meanings. -/
namespace Py
open PySem PySem.Spec PyProof.Rows L2
/-! ### names by number -/
def nmOf (l : List Str) (f : Nat) : Str := (l[f]?).getD ⟨Array.replicate (f + 1000) 0⟩
theorem nmOf_inj {l : List Str} (nd : l.Nodup) (hs : ∀ x ∈ l, x.cps.size < 1000) : ∀ f g : Nat, nmOf l f = nmOf l g → f = g := by
  intro f g h
  unfold nmOf at h
  by_cases hf : f < l.length <;> by_cases hg : g < l.length
  · rw [List.getElem?_eq_getElem hf, List.getElem?_eq_getElem hg] at h
    exact (List.getElem_inj nd).mp h
  · rw [List.getElem?_eq_getElem hf, List.getElem?_eq_none (by omega)] at h
    have := hs _ (List.getElem_mem hf)
    rw [Option.getD_some, Option.getD_none] at h
    rw [h] at this
    simp at this
    omega
  · rw [List.getElem?_eq_getElem hg, List.getElem?_eq_none (by omega)] at h
    have := hs _ (List.getElem_mem hg)
    rw [Option.getD_some, Option.getD_none] at h
    rw [← h] at this
    simp at this
    omega
  · rw [List.getElem?_eq_none (by omega), List.getElem?_eq_none (by omega)] at h
    have := congrArg (fun x : Str => x.cps.size) h
    simp at this
    omega
/-! ### a def as it stands behind the top -/
structure DefAt (K : PySem.W.Frag) (x : Str) (st : PySem.Stmt) (f : Addr) : Prop where
  ns : PySem.W.nsIn K mainGlobals x = some (some (.ref f))
  kp : PySem.W.keepIn K (.ref f) = true
  ex : ∃ (oc : Value) (od : Option Addr) (kV dc pm : Value) (an : Option Addr) (cd ct : Value) (sl : Array (Option Value)),
    K.lookup f = some ⟨oc, od, .func (PySem.W.fnOf x x (defArgs st) (defBody st) (defScope st) .none kV dc pm an cd ct), sl⟩ ∧ PySem.W.codeIn K cd x = true
theorem DefAt.mk' {K : PySem.W.Frag} {x : Str} {st : PySem.Stmt} {f : Addr} {oc kV dc pm cd ct : Value} {od an : Option Addr} {sl : Array (Option Value)}
    (a : PySem.W.nsIn K mainGlobals x = some (some (.ref f))) (l : K.lookup f = some ⟨oc, od, .func (PySem.W.fnOf x x (defArgs st) (defBody st) (defScope st) .none kV dc pm an cd ct), sl⟩)
    (c : PySem.W.codeIn K cd x = true) (k : PySem.W.keepIn K (.ref f) = true) : ∃ f, DefAt K x st f := ⟨f, a, k, oc, od, kV, dc, pm, an, cd, ct, sl, l, c⟩
/-- what a look at the text shows -/
structure Txt (s : Cst) (x q : Str) (st : PySem.Stmt) (N ps : List Str) (cf : CF) : Prop where
  sc : FnScope N ps (defScope st)
  ck : chkB s N cf.body (defScope st) (defBody st) = true
  n : cf.n = N.length
  pl : cf.ps = ps.length
  bi : ∀ (kV doc pm : Value) (an : Option Addr) (cdv ct : Value) (us : List Value), us.length = ps.length → bindArgs (PySem.W.fnOf x q (defArgs st) (defBody st) (defScope st) .none kV doc pm an cdv ct) ⟨us, []⟩ = pure (ps.zip us)
theorem Txt.def1 {c : Cfg} {x : Str} {st : PySem.Stmt} {N ps : List Str} {cf : CF} {f : Addr} (t : Txt c.toCst x x st N ps cf) (d : DefAt c.K x st f) : ∃ fd, Def1 c f fd ps cf := by
  obtain ⟨oc, od, kV, dc, pm, an, cd, ct, sl, l, h⟩ := d.ex
  have F := fun_mk l h d.kp
  exact ⟨_, ⟨x, x, st, N, F, t.sc, t.ck, t.n⟩, F.binds t.bi, t.pl⟩
theorem Txt.fn {c : Cfg} {P : Nat → Option CF} {mg : Str → Option Value} {x : Str} {st : PySem.Stmt} {N ps : List Str} {cf : CF} {f : Addr} {k : Nat} (t : Txt c.toCst x x st N ps cf) (d : DefAt c.K x st f) (hm : ∀ x f, PySem.W.nsIn c.K mainGlobals x = some (some (.ref f)) → mg x = some (.ref f)) (hP : P k = some cf) (hx : c.fnm k = x) :
    ∃ a fd ps cf, P k = some cf ∧ mg (c.fnm k) = some (.ref a) ∧ PySem.W.keepIn c.K (.ref a) = true ∧ Def1 c a fd ps cf := by
  obtain ⟨fd, h⟩ := t.def1 d
  exact ⟨f, fd, ps, cf, hP, hx ▸ hm _ _ d.ns, d.kp, h⟩
theorem law_end {l : PySem.W.OpenLaw} {w : World} {c : Cfg} {P : Nat → Option CF} {h : Heap} {mg : Str → Option Value} {fa f : Addr} {st : PySem.Stmt} {N : List Str} {cf : CF} {i k : Nat}
    (X : c.K.In h) (G : h.Ns mainGlobals mg) (hfa : mg "law" = some (.ref fa)) (pr : Prog c P mg) (d : DefAt c.K "law" st f) (t : Txt c.toCst "law" "law" st N ["script"] cf) (hP : P i = some cf)
    (hb : ∀ (kV doc pm : Value) (an : Option Addr) (cdv ct : Value) (s : Shared) (v : Value), BindsTo s (PySem.W.fnOf "law" "law" (defArgs st) (defBody st) (defScope st) .none kV doc pm an cdv ct) ⟨[v], []⟩ [("script", v)]) :
    ∃ fd : FuncData, (∀ (s : Shared) (v : Value), BindsTo s fd ⟨[v], []⟩ [("script", v)]) ∧ ∀ base : Heap, c.K.In base → base.Ns mainGlobals mg → FnOk l.prog w c.K mg base CX0 (2 * k + 2) fa fd ["script"] (spG c (sem c.T P (k + 1) i)) := by
  have e := hfa.symm.trans (PySem.W.mg_of X G d.ns)
  cases e
  obtain ⟨oc, od, kV, dc, pm, an, cd, ct, sl, lk, hc⟩ := d.ex
  have F := fun_mk lk hc d.kp
  exact ⟨_, hb kV dc pm an cd ct, fun base _ _ => fn_law pr hP ⟨⟨_, _, _, _, F, t.sc, t.ck, t.n⟩, F.binds t.bi, t.pl⟩⟩
/-! ### classes -/
/-- a global's address -/
def gaK (K : PySem.W.Frag) (x : Str) : Addr := match PySem.W.nsIn K mainGlobals x with
  | some (some (.ref a)) => a
  | _ => 0
theorem gaK_of {K : PySem.W.Frag} {x : Str} {a : Addr} (h : PySem.W.nsIn K mainGlobals x = some (some (.ref a))) : gaK K x = a := by
  unfold gaK
  rw [h]
def NoAll (K : PySem.W.Frag) (C : Addr) : List Str → Prop
  | [] => True
  | x :: r => PySem.W.findIn K (.ref C) x = some none ∧ NoAll K C r
theorem NoAll.get {K : PySem.W.Frag} {C : Addr} : ∀ {l : List Str}, NoAll K C l → ∀ x ∈ l, NoAttr K C x
  | _ :: _, h, x, hx => by
    cases hx with
    | head => exact h.1
    | tail _ hx => exact h.2.get x hx
/-- a class as it stands behind the top, with its fields' names -/
structure ClsAt (K : PySem.W.Frag) (x : Str) (fs : List Str) : Prop where
  ns : PySem.W.nsIn K mainGlobals x = some (some (.ref (gaK K x)))
  cls : Cls K (gaK K x)
  mkk : PySem.W.makesIn K (gaK K x) = true
  kc : PySem.W.keepIn K (.ref (gaK K x)) = true
  fl : NoAll K (gaK K x) fs
theorem ClsAt.mk' {K : PySem.W.Frag} {x : Str} {fs : List Str} {C : Addr} (a : PySem.W.nsIn K mainGlobals x = some (some (.ref C)))
    (pg : PySem.W.plainGet K C Str.empty = true) (hd : PySem.W.hasDictIn K C = true) (po : PySem.W.plainOver K C = true) (sa : PySem.W.findIn K (.ref C) "__setattr__" = some (some (.builtin "object.__setattr__")))
    (mk : PySem.W.makesIn K C = true) (kc : PySem.W.keepIn K (.ref C) = true) (fl : NoAll K C fs) : ClsAt K x fs := by
  have e := gaK_of a
  subst e
  exact ⟨a, ⟨pg, hd, po, sa⟩, mk, kc, fl⟩
/-- a method of the class x -/
structure MethAt (K : PySem.W.Frag) (x m q : Str) (st : PySem.Stmt) (f : Addr) : Prop where
  at_ : PySem.W.findIn K (.ref (gaK K x)) m = some (some (.ref f))
  fn : PySem.W.isFn K (.ref f) = true
  kp : PySem.W.keepIn K (.ref f) = true
  ex : ∃ (oc : Value) (od : Option Addr) (kV dc pm : Value) (an : Option Addr) (cd ct : Value) (sl : Array (Option Value)),
    K.lookup f = some ⟨oc, od, .func (PySem.W.fnOf m q (defArgs st) (defBody st) (defScope st) .none kV dc pm an cd ct), sl⟩ ∧ PySem.W.codeIn K cd q = true
theorem MethAt.mk' {K : PySem.W.Frag} {x m q : Str} {st : PySem.Stmt} {C f : Addr} {oc kV dc pm cd ct : Value} {od an : Option Addr} {sl : Array (Option Value)} (n : PySem.W.nsIn K mainGlobals x = some (some (.ref C)))
    (a : PySem.W.findIn K (.ref C) m = some (some (.ref f))) (i : PySem.W.isFn K (.ref f) = true) (l : K.lookup f = some ⟨oc, od, .func (PySem.W.fnOf m q (defArgs st) (defBody st) (defScope st) .none kV dc pm an cd ct), sl⟩)
    (c : PySem.W.codeIn K cd q = true) (k : PySem.W.keepIn K (.ref f) = true) : ∃ f, MethAt K x m q st f := by
  have e := gaK_of n
  subst e
  exact ⟨f, a, i, k, oc, od, kV, dc, pm, an, cd, ct, sl, l, c⟩
theorem Txt.def2 {c : Cfg} {x m q : Str} {st : PySem.Stmt} {N ps : List Str} {cf : CF} {f : Addr} (t : Txt c.toCst m q st N ps cf) (d : MethAt c.K x m q st f) : ∃ fd, Def1 c f fd ps cf := by
  obtain ⟨oc, od, kV, dc, pm, an, cd, ct, sl, l, h⟩ := d.ex
  have F := fun_mk l h d.kp
  exact ⟨_, ⟨m, q, st, N, F, t.sc, t.ck, t.n⟩, F.binds t.bi, t.pl⟩
theorem Txt.ini {c : Cfg} {P : Nat → Option CF} {mg : Str → Option Value} {x q : Str} {fs : List Str} {st : PySem.Stmt} {N ps : List Str} {cf : CF} {f : Addr} {k : Nat} (t : Txt c.toCst "__init__" q st N ps cf) (d : MethAt c.K x "__init__" q st f) (h : ClsAt c.K x fs)
    (hm : ∀ x f, PySem.W.nsIn c.K mainGlobals x = some (some (.ref f)) → mg x = some (.ref f)) (hP : P (c.T.init k) = some cf) (hx : c.cnm k = x) (hC : c.CA k = gaK c.K x) :
    ∃ a fd ps cf, P (c.T.init k) = some cf ∧ mg (c.cnm k) = some (.ref (c.CA k)) ∧ Mk c.K (c.CA k) a ∧ Def1 c a fd ps cf := by
  obtain ⟨fd, hd⟩ := t.def2 d
  rw [hC, hx]
  exact ⟨f, fd, ps, cf, hP, hm _ _ h.ns, ⟨h.mkk, d.at_, d.fn, h.kc⟩, hd⟩
theorem Txt.mth {c : Cfg} {P : Nat → Option CF} {x m q : Str} {fs : List Str} {st : PySem.Stmt} {N ps : List Str} {cf : CF} {f : Addr} {k j : Nat} (t : Txt c.toCst m q st N ps cf) (d : MethAt c.K x m q st f) (h : ClsAt c.K x fs)
    (hP : P (c.T.mth k j) = some cf) (hx : c.mnm j = m) (hC : c.CA k = gaK c.K x) (hf : ∀ f ∈ c.T.flds k, c.nm f ≠ m) :
    ∃ a fd ps cf, P (c.T.mth k j) = some cf ∧ Cls c.K (c.CA k) ∧ Meth c.K (c.CA k) (c.mnm j) a ∧ (∀ f ∈ c.T.flds k, c.nm f ≠ c.mnm j) ∧ Def1 c a fd ps cf := by
  obtain ⟨fd, hd⟩ := t.def2 d
  rw [hC, hx]
  exact ⟨f, fd, ps, cf, hP, h.cls, ⟨d.at_, d.fn, d.kp⟩, hf, hd⟩
theorem fldIx_mem {f : Nat} : ∀ {fs : List Nat}, fldIx fs f ≠ none → f ∈ fs
  | [], h => absurd rfl h
  | g :: r, h => by
    rw [fldIx] at h
    by_cases e : g = f
    · rw [e]; exact .head _
    · rw [if_neg e] at h
      refine .tail _ (fldIx_mem fun e => h ?_)
      rw [e]; rfl
theorem ClsAt.fields {c : Cfg} {x : Str} {fs : List Str} {k f : Nat} (h : ClsAt c.K x fs) (hC : c.CA k = gaK c.K x) (hf : ∀ f ∈ c.T.flds k, c.nm f ∈ fs) (hi : fldIx (c.T.flds k) f ≠ none) : Cls c.K (c.CA k) ∧ NoAttr c.K (c.CA k) (c.nm f) := by
  rw [hC]
  exact ⟨h.cls, h.fl.get _ (hf f (fldIx_mem hi))⟩
theorem mthAll {p : Nat → Nat → Prop} {l : List (Nat × Nat)} {k m : Nat} (h : (k, m) ∈ l) (hl : ∀ x ∈ l, p x.1 x.2) : p k m := hl _ h
def NoneAll (K : PySem.W.Frag) : List Str → Prop
  | [] => True
  | x :: r => PySem.W.nsIn K mainGlobals x = some none ∧ NoneAll K r
theorem NoneAll.get {K : PySem.W.Frag} : ∀ {l : List Str}, NoneAll K l → ∀ x ∈ l, PySem.W.nsIn K mainGlobals x = some none
  | _ :: _, h, x, hx => by
    cases hx with
    | head => exact h.1
    | tail _ hx => exact h.2.get x hx
end Py
/-! Reasoning over the meaning. -/
namespace Py
open PySem
/-- r ends well, with Q -/
@[irreducible] def W {α : Type} (r : R α) (Q : α → Sto → Prop) : Prop := match r with
  | .ok a S => Q a S
  | _ => False
section
variable {α β : Type}
theorem W_ok {a : α} {S : Sto} {Q : α → Sto → Prop} : W (.ok a S) Q = Q a S := by unfold W; rfl
theorem W_exc {a : D} {S : Sto} {Q : α → Sto → Prop} : W (.exc a S : R α) Q = False := by unfold W; rfl
theorem W_bad {Q : α → Sto → Prop} : W (.bad : R α) Q = False := by unfold W; rfl
theorem W_bind {r : R α} {f : α → Sto → R β} {Q : β → Sto → Prop} : W (r.bind f) Q = W r fun a S => W (f a S) Q := by
  cases r with
  | ok a S => rw [bind_ok, W_ok]
  | exc e S => rw [bind_exc, W_exc, W_exc]
  | bad => rw [bind_bad, W_bad, W_bad]
theorem W.out {r : R α} {Q : α → Sto → Prop} (h : W r Q) : ∃ a S, r = .ok a S ∧ Q a S := by
  cases r with
  | ok a S => rw [W_ok] at h; exact ⟨a, S, rfl, h⟩
  | exc e S => rw [W_exc] at h; exact h.elim
  | bad => rw [W_bad] at h; exact h.elim
theorem W.mono {r : R α} {Q Q' : α → Sto → Prop} (h : W r Q) (k : ∀ a S, Q a S → Q' a S) : W r Q' := by
  obtain ⟨a, S, rfl, q⟩ := h.out
  rw [W_ok]; exact k a S q
theorem W.of_eq {r : R α} {a : α} {S : Sto} {Q : α → Sto → Prop} (h : r = .ok a S) (q : Q a S) : W r Q := by rw [h, W_ok]; exact q
theorem W_iff {r : R α} {a : α} {S : Sto} : W r (fun b S' => b = a ∧ S' = S) ↔ r = .ok a S := by
  constructor
  · intro h
    obtain ⟨b, S', e, rfl, rfl⟩ := h.out
    exact e
  · intro h
    rw [h, W_ok]; exact ⟨rfl, rfl⟩
theorem W_if {p : Prop} [Decidable p] {x y : R α} {Q : α → Sto → Prop} : W (if p then x else y) Q = if p then W x Q else W y Q := by split <;> rfl
theorem W_ifb {p : Prop} [Decidable p] {x : R α} {Q : α → Sto → Prop} : W (if p then x else .bad) Q = (p ∧ W x Q) := by
  split
  · rename_i h; exact propext ⟨fun q => ⟨h, q⟩, fun q => q.2⟩
  · rename_i h; rw [W_bad]; exact propext ⟨fun q => False.elim q, fun q => h q.1⟩
theorem W_opt {S : Sto} {o : Option α} {Q : α → Sto → Prop} : W (optR S o) Q = ∃ a, o = some a ∧ Q a S := by
  cases o with
  | none =>
    rw [show optR S (none : Option α) = .bad from rfl, W_bad]; exact propext ⟨fun h => False.elim h, fun ⟨_, e, _⟩ => by cases e⟩
  | some a => rw [optR_some, W_ok]; exact propext ⟨fun h => ⟨a, rfl, h⟩, fun ⟨_, e, q⟩ => by cases e; exact q⟩
end
/-! ### the store cut back -/
/-- the old entries of S' are those of S, or hold no refs -/
def Gr : Sto → Sto → Prop
  | [], _ => True
  | o :: S, o' :: S' => (o' = o ∨ o'.pure = true) ∧ Gr S S'
  | _ :: _, [] => False
theorem Gr.refl : ∀ S : Sto, Gr S S
  | [] => trivial
  | _ :: S => ⟨.inl rfl, Gr.refl S⟩
theorem Gr.app : ∀ (S X : Sto), Gr S (S ++ X)
  | [], _ => trivial
  | _ :: S, X => ⟨.inl rfl, Gr.app S X⟩
theorem Gr.conv {k : Nat → Option D} : ∀ {S S' : Sto}, Gr S S' → conv k S S' = some (S'.take S.length)
  | [], _, _ => by simp [Py.conv]
  | o :: S, o' :: S', h => by
    have e : (if o' = o then some o else O.mapR k o') = some o' := by
      split
      · rename_i e; rw [e]
      · rename_i n; exact O.mapR_pure k o' (h.1.resolve_left n)
    rw [Py.conv, e, Option.bind_some, Gr.conv h.2]; rfl
theorem Gr.set {S S' : Sto} {n : Nat} {o : O} (h : Gr S S') (p : o.pure = true) : Gr S (S'.set n o) := by
  induction S generalizing S' n with
  | nil => trivial
  | cons a S ih =>
    cases S' with
    | nil => exact h.elim
    | cons b S' =>
      cases n with
      | zero => exact ⟨.inr p, h.2⟩
      | succ n => exact ⟨h.1, ih h.2⟩
theorem Gr.setNew {S S' : Sto} {n : Nat} {o : O} (h : Gr S S') (hn : S.length ≤ n) : Gr S (S'.set n o) := by
  induction S generalizing S' n with
  | nil => trivial
  | cons a S ih =>
    cases S' with
    | nil => exact h.elim
    | cons b S' =>
      cases n with
      | zero => simp at hn
      | succ n => exact ⟨h.1, ih h.2 (by simpa using hn)⟩
theorem Gr.push {S S' X : Sto} (h : Gr S S') : Gr S (S' ++ X) := by
  induction S generalizing S' with
  | nil => trivial
  | cons a S ih =>
    cases S' with
    | nil => exact h.elim
    | cons b S' => exact ⟨h.1, ih h.2⟩
theorem Gr.len {S S' : Sto} (h : Gr S S') : S.length ≤ S'.length := by
  induction S generalizing S' with
  | nil => simp
  | cons a S ih =>
    cases S' with
    | nil => exact h.elim
    | cons b S' => simpa using ih h.2
/-- pure data: the new entries go -/
theorem shut_pure {S S' : Sto} {d : D} (h : Gr S S') (p : d.pure = true) : shut S d S' = .ok d (S'.take S.length) := by
  unfold shut
  rw [D.mapR_pure _ d p, h.conv]
theorem rd_new {S' : Sto} {n0 x n : Nat} {xs : List D} (h : S'[n]? = some (.lst xs)) (hn : n0 ≤ n) (hx : n ≠ x) (p : D.pures xs = true) : rd S' n0 x 6 n = some (.lst xs) := by
  rw [rd]
  rw [if_neg (by omega), if_neg hx, h]
  simp only [D.mapRs_pure _ xs p]
  rfl
/-- a new list of pure data, by value now -/
theorem shut_ref {S S' : Sto} {n : Nat} {xs : List D} (h : Gr S S') (hn : S.length ≤ n) (e : S'[n]? = some (.lst xs)) (p : D.pures xs = true) : shut S (.ref n) S' = .ok (.lst xs) (S'.take S.length) := by
  have : n < S'.length := by
    rcases Nat.lt_or_ge n S'.length with g | g
    · exact g
    · rw [List.getElem?_eq_none g] at e; cases e
  unfold shut
  rw [D.mapR, rd_new e hn (by omega) p, h.conv]
theorem shut_last {S : Sto} {xs : List D} (p : D.pures xs = true) : shut S (.ref S.length) (S ++ [.lst xs]) = .ok (.lst xs) S := by
  rw [shut_ref (Gr.app S _) (Nat.le_refl _) (by simp) p]; simp
theorem shutK_pure {S S' : Sto} {d : D} (h : Gr S S') (p : d.pure = true) : shutK S d S' = .ok d (S'.take S.length) := by
  unfold shutK
  split
  · cases p
  · exact shut_pure h p
theorem shutK_ref {S S' : Sto} {n : Nat} {xs : List D} (h : Gr S S') (hn : S.length ≤ n) (e : S'[n]? = some (.lst xs)) (p : D.pures xs = true) : shutK S (.ref n) S' = .ok (.ref S.length) (S'.take S.length ++ [.lst xs]) := by
  show (if n < S.length then shut S (.ref n) S' else _) = _
  rw [if_neg (by omega), e]
  simp only [Option.bind_some]
  rw [O.mapR_pure _ (.lst xs) p, h.conv]
theorem shutK_last {S : Sto} {xs : List D} (p : D.pures xs = true) : shutK S (.ref S.length) (S ++ [.lst xs]) = .ok (.ref S.length) (S ++ [.lst xs]) := by
  rw [shutK_ref (Gr.app S _) (Nat.le_refl _) (by simp) p]; simp
/-! ### pure lists -/
theorem pures_map {α : Type} {g : α → D} (h : ∀ a, (g a).pure = true) : ∀ l : List α, D.pures (l.map g) = true
  | [] => rfl
  | a :: l => by rw [List.map_cons, D.pures, h a, pures_map h l]; rfl
theorem pures_iff : ∀ {l : List D}, D.pures l = true ↔ ∀ d ∈ l, d.pure = true
  | [] => by simp [D.pures]
  | a :: l => by rw [D.pures, Bool.and_eq_true, pures_iff]; simp
theorem pures_app {a b : List D} : D.pures (a ++ b) = (D.pures a && D.pures b) := by
  induction a with
  | nil => simp [D.pures]
  | cons x a ih => simp [D.pures, ih, Bool.and_assoc]
abbrev il (l : List Int) : List D := l.map .int
theorem pures_il (l : List Int) : D.pures (il l) = true := pures_map (fun _ => rfl) l
theorem exAnd {α : Type} {p : Prop} {a : α} {q : α → Prop} : (∃ x, (p ∧ a = x) ∧ q x) = (p ∧ q a) := propext ⟨fun ⟨_, ⟨h, e⟩, g⟩ => ⟨h, e ▸ g⟩, fun ⟨h, g⟩ => ⟨a, ⟨h, rfl⟩, g⟩⟩
theorem sem_s {T : Tab} {P : Nat → Option CF} {k f : Nat} {cf : CF} (h : P f = some cf) : sem T P (k + 1) f = runF T (sem T P k) cf := by
  funext ds S
  rw [sem]
  simp only [h]
/-! ### a def's body -/
def endW (S : Sto) (Q : D → Sto → Prop) : Fl → Sto → Prop := fun fl S' => match fl with
  | .next _ => W (shutK S .non S') Q
  | .ret d => W (shutK S d S') Q
  | _ => False
theorem W_run {T : Tab} {P : Nat → Option CF} {k f : Nat} {cf : CF} {ds : List D} {S : Sto} {Q : D → Sto → Prop} (hP : P f = some cf) (hk : cf.keep = false) (hp : ds.length = cf.ps)
    (h : W (evB T (sem T P k) cf.body (ds.map some ++ List.replicate (cf.n - ds.length) none) S) (endW S Q)) : W (sem T P (k + 1) f ds S) Q := by
  rw [sem_s hP]
  unfold runF
  rw [if_pos hp, hk]
  obtain ⟨fl, S', e, q⟩ := h.out
  rw [e]
  cases fl with
  | next σ => exact q
  | ret d => exact q
  | brk σ => exact q.elim
  | cnt σ => exact q.elim
theorem endW_ret {S : Sto} {Q : D → Sto → Prop} {d : D} {S' : Sto} : endW S Q (.ret d) S' = W (shutK S d S') Q := by cases S' <;> rfl
theorem endW_next {S : Sto} {Q : D → Sto → Prop} {σ : Sl} {S' : Sto} : endW S Q (.next σ) S' = W (shutK S .non S') Q := by cases S <;> rfl
/-! ### loops -/
def stepW (I : Sl → Sto → Prop) (Q : Fl → Sto → Prop) : Fl → Sto → Prop := fun fl S' => match fl with
  | .next σ => I σ S'
  | .cnt σ => I σ S'
  | .brk σ => Q (.next σ) S'
  | .ret d => Q (.ret d) S'
theorem stepW_next {I : Sl → Sto → Prop} {Q : Fl → Sto → Prop} {σ : Sl} {S' : Sto} : stepW I Q (.next σ) S' = I σ S' := by cases S' <;> rfl
theorem stepW_cnt {I : Sl → Sto → Prop} {Q : Fl → Sto → Prop} {σ : Sl} {S' : Sto} : stepW I Q (.cnt σ) S' = I σ S' := by cases S' <;> rfl
theorem stepW_brk {I : Sl → Sto → Prop} {Q : Fl → Sto → Prop} {σ : Sl} {S' : Sto} : stepW I Q (.brk σ) S' = Q (.next σ) S' := by cases S' <;> rfl
theorem stepW_ret {I : Sl → Sto → Prop} {Q : Fl → Sto → Prop} {d : D} {S' : Sto} : stepW I Q (.ret d) S' = Q (.ret d) S' := by cases S' <;> rfl
theorem W_forL {iv : IV} {n : Nat} {it : Nat → D} {f : D → Sl → Sto → R Fl} (I : Nat → Sl → Sto → Prop) {Q : Fl → Sto → Prop}
    (hit : ∀ i σ S, i ≤ n → I i σ S → nxt iv i S = some (if i < n then some (it i) else none))
    (step : ∀ i σ S, i < n → I i σ S → W (f (it i) σ S) (stepW (I (i + 1)) Q)) (fin : ∀ σ S, I n σ S → Q (.next σ) S) :
    ∀ (m i : Nat) (σ : Sl) (S : Sto), i + m = n → I i σ S → ∀ fuel, m < fuel → W (forL iv f fuel i σ S) Q
  | m, i, σ, S, hm, hI, fuel + 1, hf => by
    rw [forL, hit i σ S (by omega) hI]
    by_cases hi : i < n
    · rw [if_pos hi]
      obtain ⟨m, rfl⟩ : ∃ m', m = m' + 1 := ⟨m - 1, by omega⟩
      show W (R.bind _ _) Q
      rw [W_bind]
      refine (step i σ S hi hI).mono fun fl S' h => ?_
      cases fl with
      | next σ' => exact W_forL I hit step fin m (i + 1) σ' S' (by omega) h fuel (by omega)
      | cnt σ' => exact W_forL I hit step fin m (i + 1) σ' S' (by omega) h fuel (by omega)
      | brk σ' => show W (.ok (.next σ') S') Q; rw [W_ok]; exact h
      | ret d => show W (.ok (.ret d) S') Q; rw [W_ok]; exact h
    · rw [if_neg hi]
      have : i = n := by omega
      subst this
      show W (.ok (.next σ) S) Q
      rw [W_ok]; exact fin σ S hI
/-- for j in range(a, a + n) -/
theorem W_forR {a n : Nat} {lo : Int} {f : D → Sl → Sto → R Fl} (I : Nat → Sl → Sto → Prop) {Q : Fl → Sto → Prop} {σ : Sl} {S : Sto} (hlo : lo = a) (h0 : I a σ S)
    (step : ∀ j σ S, a ≤ j → j < a + n → I j σ S → W (f (.int j) σ S) (stepW (I (j + 1)) Q)) (fin : ∀ σ S, I (a + n) σ S → Q (.next σ) S) : W (forL (.rg lo n) f (fuelOf S (.rg lo n)) 0 σ S) Q := by
  subst hlo
  refine W_forL (n := n) (it := fun i => .int ((a + i : Nat) : Int)) (fun i => I (a + i)) (fun i σ S hi _ => ?_) (fun i σ S hi h => step (a + i) σ S (by omega) (by omega) h) fin n 0 σ S (by omega) h0 _ (by simp [fuelOf])
  simp [nxt]
theorem W_forR0 {n : Nat} {f : D → Sl → Sto → R Fl} (I : Nat → Sl → Sto → Prop) {Q : Fl → Sto → Prop} {σ : Sl} {S : Sto} (h0 : I 0 σ S)
    (step : ∀ j σ S, j < n → I j σ S → W (f (.int j) σ S) (stepW (I (j + 1)) Q)) (fin : ∀ σ S, I n σ S → Q (.next σ) S) : W (forL (.rg 0 n) f (fuelOf S (.rg 0 n)) 0 σ S) Q :=
  W_forR (a := 0) (n := n) I rfl h0 (fun j σ S _ hj h => step j σ S (by omega) h) (fun σ S h => fin σ S (by simpa using h))
/-- for x in a list or tuple that stays -/
theorem W_forS {d : D} {xs : List D} {f : D → Sl → Sto → R Fl} (I : Nat → Sl → Sto → Prop) {Q : Fl → Sto → Prop} {σ : Sl} {S : Sto} (hd : ∀ i σ S, I i σ S → seqOf S d = some xs) (h0 : I 0 σ S)
    (step : ∀ i x σ S, xs[i]? = some x → i < xs.length → I i σ S → W (f x σ S) (stepW (I (i + 1)) Q)) (fin : ∀ σ S, I xs.length σ S → Q (.next σ) S) : W (forL (.sq d) f (fuelOf S (.sq d)) 0 σ S) Q := by
  refine W_forL (n := xs.length) (it := fun i => xs.getD i .non) I (fun i σ S hi h => ?_) (fun i σ S hi h => step i _ σ S (by simp [hi]) hi h) fin xs.length 0 σ S (by omega) h0 _ (by rw [fuelOf, hd 0 σ S h0]; simp)
  rw [nxt, hd i σ S h]
  by_cases hi : i < xs.length
  · simp [hi]
  · simp [hi]
/-! ### comprehensions -/
theorem W_compL {S0 : Sto} {iv : IV} {n : Nat} {it : Nat → D} {f : D → Sto → R (Option D)} (I : Nat → List D → Sto → Prop) {Q : List D → Sto → Prop}
    (hit : ∀ i acc S, i ≤ n → I i acc S → nxt iv i S = some (if i < n then some (it i) else none)) (hn : n ≤ lim)
    (step : ∀ i acc S, i < n → I i acc S → W (f (it i) S) fun o S' => I (i + 1) (acc ++ o.toList) S') (fin : ∀ acc S, I n acc S → Q acc S) :
    ∀ (m i : Nat) (acc : List D) (S : Sto), i + m = n → acc.length ≤ i → I i acc S → ∀ fuel, m < fuel → W (compL S0 iv f fuel i acc S) Q
  | m, i, acc, S, hm, hl, hI, fuel + 1, hf => by
    rw [compL, hit i acc S (by omega) hI]
    by_cases hi : i < n
    · rw [if_pos hi]
      obtain ⟨m, rfl⟩ : ∃ m', m = m' + 1 := ⟨m - 1, by omega⟩
      show W (R.bind _ _) Q
      rw [W_bind]
      refine (step i acc S hi hI).mono fun o S' h => ?_
      cases o with
      | none => exact W_compL I hit hn step fin m (i + 1) acc S' (by omega) (by omega) (by simpa using h) fuel (by omega)
      | some y =>
        show W (if acc.length < lim then _ else _) Q
        rw [if_pos (by omega)]
        exact W_compL I hit hn step fin m (i + 1) (acc ++ [y]) S' (by omega) (by simp; omega) h fuel (by omega)
    · rw [if_neg hi]
      have : i = n := by omega
      subst this
      show W (.ok acc S) Q
      rw [W_ok]; exact fin acc S hI
theorem W_compR {a n : Nat} {lo : Int} {S0 : Sto} {f : D → Sto → R (Option D)} (I : Nat → List D → Sto → Prop) {Q : List D → Sto → Prop} {S : Sto} (hlo : lo = a) (hn : n ≤ lim) (h0 : I a [] S)
    (step : ∀ j acc S, a ≤ j → j < a + n → I j acc S → W (f (.int j) S) fun o S' => I (j + 1) (acc ++ o.toList) S') (fin : ∀ acc S, I (a + n) acc S → Q acc S) : W (compL S0 (.rg lo n) f (fuelOf S (.rg lo n)) 0 [] S) Q := by
  subst hlo
  refine W_compL (n := n) (it := fun i => .int ((a + i : Nat) : Int)) (fun i => I (a + i)) (fun i σ S hi _ => ?_) hn (fun i σ S hi h => step (a + i) σ S (by omega) (by omega) h) fin n 0 [] S (by omega) (by simp) h0 _ (by simp [fuelOf])
  simp [nxt]
theorem W_compS {d : D} {xs : List D} {S0 : Sto} {f : D → Sto → R (Option D)} (I : Nat → List D → Sto → Prop) {Q : List D → Sto → Prop} {S : Sto} (hd : ∀ i acc S, I i acc S → seqOf S d = some xs) (hn : xs.length ≤ lim) (h0 : I 0 [] S)
    (step : ∀ i x acc S, xs[i]? = some x → i < xs.length → I i acc S → W (f x S) fun o S' => I (i + 1) (acc ++ o.toList) S') (fin : ∀ acc S, I xs.length acc S → Q acc S) : W (compL S0 (.sq d) f (fuelOf S (.sq d)) 0 [] S) Q := by
  refine W_compL (n := xs.length) (it := fun i => xs.getD i .non) I (fun i acc S hi h => ?_) hn (fun i σ S hi h => step i _ σ S (by simp [hi]) hi h) fin xs.length 0 [] S (by omega) (by simp) h0 _ (by rw [fuelOf, hd 0 [] S h0]; simp)
  rw [nxt, hd i acc S h]
  by_cases hi : i < xs.length
  · simp [hi]
  · simp [hi]
/-- where each turn is a look alone -/
theorem compR_pure {a n : Nat} {lo : Int} {S0 : Sto} {f : D → Sto → R (Option D)} (g : Nat → Option D) {S : Sto} (hlo : lo = a) (hn : n ≤ lim)
    (step : ∀ j, a ≤ j → j < a + n → f (.int j) S = .ok (g j) S) : compL S0 (.rg lo n) f (fuelOf S (.rg lo n)) 0 [] S = .ok ((List.range' a n).filterMap g) S := by
  rw [← W_iff]
  refine W_compR (a := a) (n := n) (fun j acc S' => S' = S ∧ a ≤ j ∧ acc = (List.range' a (j - a)).filterMap g) hlo hn ⟨rfl, Nat.le_refl _, by simp⟩ (fun j acc S' h1 h2 h => ?_) (fun acc S' h => ⟨by rw [h.2.2]; simp, h.1⟩)
  obtain ⟨rfl, h3, rfl⟩ := h
  rw [step j h1 h2, W_ok]
  refine ⟨rfl, by omega, ?_⟩
  rw [show j + 1 - a = (j - a) + 1 by omega, List.range'_concat, List.filterMap_append]
  rw [show a + 1 * (j - a) = j by omega]
  cases hg : g j <;> simp [hg]
theorem compS_pure {d : D} {xs : List D} {S0 : Sto} {f : D → Sto → R (Option D)} (g : D → Option D) {S : Sto} (hd : seqOf S d = some xs) (hn : xs.length ≤ lim)
    (step : ∀ x, x ∈ xs → f x S = .ok (g x) S) : compL S0 (.sq d) f (fuelOf S (.sq d)) 0 [] S = .ok (xs.filterMap g) S := by
  rw [← W_iff]
  refine W_compS (xs := xs) (fun j acc S' => S' = S ∧ acc = (xs.take j).filterMap g) (fun i acc S' h => by rw [h.1]; exact hd) hn ⟨rfl, by simp⟩ (fun j x acc S' h1 h2 h => ?_) (fun acc S' h => ⟨by rw [h.2]; simp, h.1⟩)
  obtain ⟨rfl, rfl⟩ := h
  rw [step x (List.mem_of_getElem? h1), W_ok]
  refine ⟨rfl, ?_⟩
  rw [List.take_add_one, h1, List.filterMap_append]
  cases hg : g x <;> simp [hg]
/-! ### the ops on numbers -/
section
variable {i j : Int} {S : Sto} {Q : D → Sto → Prop}
theorem b_add : binD .Add (.int i) (.int j) S = .ok (.int (i + j)) S := by cases S <;> rfl
theorem b_sub : binD .Sub (.int i) (.int j) S = .ok (.int (i - j)) S := by cases S <;> rfl
theorem b_mul : W (binD .Mult (.int i) (.int j) S) Q = (mulOk i j = true ∧ Q (.int (i * j)) S) := by
  rw [binD, W_bind, W_opt]
  simp [binI, W_ok, exAnd]
theorem b_div : W (binD .FloorDiv (.int i) (.int j) S) Q = (divOk j = true ∧ Q (.int (i.fdiv j)) S) := by
  rw [binD, W_bind, W_opt]
  simp [binI, W_ok, exAnd]
theorem b_mod : W (binD .Mod (.int i) (.int j) S) Q = (j ≠ 0 ∧ Q (.int (i.fmod j)) S) := by
  rw [binD, W_bind, W_opt]
  simp [binI, W_ok, exAnd]
theorem b_pow : W (binD .Pow (.int i) (.int j) S) Q = ((0 ≤ j ∧ j ≤ 1000000 ∧ i.natAbs < 2 ^ 64) ∧ Q (.int (i ^ j.toNat)) S) := by
  rw [binD, W_bind, W_opt]
  simp [binI, W_ok, exAnd]
theorem b_shl : W (binD .LShift (.int i) (.int j) S) Q = ((0 ≤ j ∧ (i.natAbs.log2 : Int) + 1 + j ≤ 134217728) ∧ Q (.int (i * 2 ^ j.toNat)) S) := by
  rw [binD, W_bind, W_opt]
  simp [binI, W_ok, exAnd]
theorem b_shr : W (binD .RShift (.int i) (.int j) S) Q = (0 ≤ j ∧ Q (.int (i / 2 ^ j.toNat)) S) := by
  rw [binD, W_bind, W_opt]
  simp [binI, W_ok, exAnd]
theorem b_and : binD .BitAnd (.int i) (.int j) S = .ok (.int (Builtin.bitAnd i j)) S := by cases S <;> rfl
theorem b_or : binD .BitOr (.int i) (.int j) S = .ok (.int (Builtin.bitOr i j)) S := by cases S <;> rfl
theorem b_xor : binD .BitXor (.int i) (.int j) S = .ok (.int (Builtin.bitXor i j)) S := by cases S <;> rfl
theorem c_eq : cmpD .Eq (.int i) (.int j) S = .ok (.bl (decide (i = j))) S := by cases S <;> rfl
theorem c_ne : cmpD .NotEq (.int i) (.int j) S = .ok (.bl (!decide (i = j))) S := by cases S <;> rfl
theorem c_lt : cmpD .Lt (.int i) (.int j) S = .ok (.bl (decide (i < j))) S := by cases S <;> rfl
theorem c_le : cmpD .LtE (.int i) (.int j) S = .ok (.bl (decide (i ≤ j))) S := by cases S <;> rfl
theorem c_gt : cmpD .Gt (.int i) (.int j) S = .ok (.bl (decide (j < i))) S := by cases S <;> rfl
theorem c_ge : cmpD .GtE (.int i) (.int j) S = .ok (.bl (decide (j ≤ i))) S := by cases S <;> rfl
theorem eqB_bl {a b : Bool} : eqB S (.bl a) (.bl b) = some (a == b) := by
  simp [eqB, rsv, D.mapR, D.shp, D.dep, D.eqv]
theorem c_eqb {a b : Bool} : cmpD .Eq (.bl a) (.bl b) S = .ok (.bl (a == b)) S := by
  simp [cmpD, eqB_bl]
theorem c_neb {a b : Bool} : cmpD .NotEq (.bl a) (.bl b) S = .ok (.bl (!(a == b))) S := by
  simp [cmpD, eqB_bl]
end
theorem mulOk_l {i j : Int} (h1 : -(2 ^ 64) < i) (h2 : i < 2 ^ 64) : mulOk i j = true := by
  simp [mulOk]; omega
theorem mulOk_r {i j : Int} (h1 : -(2 ^ 64) < j) (h2 : j < 2 ^ 64) : mulOk i j = true := by
  simp [mulOk]; omega
/-! ### items -/
theorem ixD_nat {n k : Nat} (h : k < n) : ixD n (k : Int) = some k := by simp [ixD, h]
theorem idx_seq {S : Sto} {x : D} {xs : List D} {k : Nat} {d : D} (h : seqOf S x = some xs) (hk : xs[k]? = some d) (hx : ∀ z, x ≠ .str z) : idxD x (.int (k : Int)) S = .ok d S := by
  have hl : k < xs.length := by
    rcases Nat.lt_or_ge k xs.length with g | g
    · exact g
    · rw [List.getElem?_eq_none g] at hk; cases hk
  unfold idxD
  split
  · exact absurd rfl (hx _)
  · rename_i e1 e2
    cases e2
    rw [h, Option.bind_some, ixD_nat hl, Option.bind_some, hk]; rfl
  · rename_i e1 e2; first | exact (e1 _ rfl).elim | exact (e2 _ rfl).elim
theorem idx_il {S : Sto} {A : List Int} {k : Nat} (h : k < A.length) : idxD (.lst (il A)) (.int (k : Int)) S = .ok (.int (A.getD k 0)) S := idx_seq rfl (by simp [h]) (fun _ e => by cases e)
end Py
/-! The meaning as preconditions. -/
namespace Py
open PySem
theorem exEq {α : Type} {a : α} {q : α → Prop} : (∃ x, a = x ∧ q x) = q a := propext ⟨fun ⟨_, e, g⟩ => e ▸ g, fun g => ⟨a, rfl, g⟩⟩
/-- what follows a statement -/
def kB (T : Tab) (Γ : Gm) (b : CB) (Q : Fl → Sto → Prop) (fl : Fl) (S : Sto) : Prop := match fl with
  | .next σ => W (evB T Γ b σ S) Q
  | .ret d => Q (.ret d) S
  | .brk σ => Q (.brk σ) S
  | .cnt σ => Q (.cnt σ) S
/-- a comprehension's turn, a loop's turn -/
def compF (T : Tab) (Γ : Gm) (e : CE) (g : Tg) (t : CQ) (own : List (Str × Nat)) (σ : Sl) (x : D) (S : Sto) : R (Option D) := match asgT S g x (wipeD σ (own.map (·.2))) with
  | none => .bad
  | some σ1 => (evQ T Γ t σ1 S).bind fun b S => if b then (evE T Γ e σ1 S).bind fun y S => .ok (some y) S else .ok none S
def forF (T : Tab) (Γ : Gm) (g : Tg) (b : CB) (x : D) (σ : Sl) (S : Sto) : R Fl := match asgT S g x σ with
  | none => .bad
  | some σ1 => evB T Γ b σ1 S
section
variable {T : Tab} {Γ : Gm} {σ : Sl} {S : Sto}
section
variable {Q : D → Sto → Prop} {a b c : CE}
theorem e_slot {i : Nat} : W (evE T Γ (.slot i) σ S) Q = ∃ d, σ[i]? = some (some d) ∧ Q d S := by
  rw [evE]
  split
  · rename_i d e; rw [e, W_ok]; exact propext ⟨fun h => ⟨d, rfl, h⟩, fun ⟨_, e, h⟩ => by cases e; exact h⟩
  · rename_i n; rw [W_bad]; exact propext ⟨False.elim, fun ⟨d, e, _⟩ => n d e⟩
theorem e_non : W (evE T Γ .non σ S) Q = Q .non S := by rw [evE, W_ok]
theorem e_bl {b : Bool} : W (evE T Γ (.bl b) σ S) Q = Q (.bl b) S := by rw [evE, W_ok]
theorem e_int {i : Int} : W (evE T Γ (.int i) σ S) Q = Q (.int i) S := by rw [evE, W_ok]
theorem e_str {x : Str} : W (evE T Γ (.str x) σ S) Q = Q (.str x) S := by rw [evE, W_ok]
theorem e_bin {o : Operator} : W (evE T Γ (.bin o a b) σ S) Q = W (evE T Γ a σ S) fun x S => W (evE T Γ b σ S) fun y S => W (binD o x y S) Q := by rw [evE, W_bind]; simp only [W_bind]
theorem e_neg : W (evE T Γ (.neg a) σ S) Q = W (evE T Γ a σ S) fun x S => ∃ i, x = .int i ∧ Q (.int (-i)) S := by
  rw [evE, W_bind]
  congr; funext x S
  cases x <;> simp [W_ok, W_bad]
theorem e_inv : W (evE T Γ (.inv a) σ S) Q = W (evE T Γ a σ S) fun x S => ∃ i, x = .int i ∧ Q (.int (Builtin.bitNot i)) S := by
  rw [evE, W_bind]
  congr; funext x S
  cases x <;> simp [W_ok, W_bad]
theorem e_cmp {o : CmpOp} : W (evE T Γ (.cmp o a b) σ S) Q = W (evE T Γ a σ S) fun x S => W (evE T Γ b σ S) fun y S => W (cmpD o x y S) Q := by rw [evE, W_bind]; simp only [W_bind]
theorem e_chain {o p : CmpOp} : W (evE T Γ (.chain o a b p c) σ S) Q = W (evE T Γ a σ S) fun x S => W (evE T Γ b σ S) fun y S => W (cmpD o x y S) fun r S => ∃ v, r = .bl v ∧ if v = true then W (evE T Γ c σ S) fun z S => W (cmpD p y z S) Q else Q (.bl false) S := by
  rw [evE, W_bind]; simp only [W_bind]
  congr; funext x S; congr; funext y S; congr; funext r S
  cases r with
  | bl v => cases v <;> simp [W_ok, W_bind]
  | _ => simp [W_bad]
theorem e_and : W (evE T Γ (.and a b) σ S) Q = W (evE T Γ a σ S) fun x S => ∃ v, x = .bl v ∧ if v = true then W (evE T Γ b σ S) Q else Q (.bl false) S := by
  rw [evE, W_bind]
  congr; funext x S
  cases x with
  | bl v => cases v <;> simp [W_ok, W_bind]
  | _ => simp [W_bad]
theorem e_or : W (evE T Γ (.or a b) σ S) Q = W (evE T Γ a σ S) fun x S => ∃ v, x = .bl v ∧ if v = true then Q (.bl true) S else W (evE T Γ b σ S) Q := by
  rw [evE, W_bind]
  congr; funext x S
  cases x with
  | bl v => cases v <;> simp [W_ok, W_bind]
  | _ => simp [W_bad]
theorem e_not : W (evE T Γ (.not a) σ S) Q = W (evE T Γ a σ S) fun x S => ∃ v, x = .bl v ∧ Q (.bl (!v)) S := by
  rw [evE, W_bind]
  congr; funext x S
  cases x <;> simp [W_ok, W_bad]
theorem e_ife {t : CT} : W (evE T Γ (.ife t a b) σ S) Q = W (evT T Γ t σ S) fun c S => if c = true then W (evE T Γ a σ S) Q else W (evE T Γ b σ S) Q := by
  rw [evE, W_bind]; simp only [W_if]
theorem e_tup {es : CEs} : W (evE T Γ (.tup es) σ S) Q = W (evEs T Γ es σ S) fun ds S => ds.length ≤ lim ∧ Q (.tup ds) S := by
  rw [evE, W_bind]; simp only [W_ifb, W_ok]
theorem e_lst {es : CEs} : W (evE T Γ (.lst es) σ S) Q = W (evEs T Γ es σ S) fun ds S => ds.length ≤ lim ∧ Q (.ref S.length) (S ++ [.lst ds]) := by
  rw [evE, W_bind]; simp only [W_ifb, W_ok]
theorem e_call {f : Nat} {es : CEs} : W (evE T Γ (.call f es) σ S) Q = W (evEs T Γ es σ S) fun ds S => W (Γ f ds S) Q := by rw [evE, W_bind]
theorem e_mk {k : Nat} {es : CEs} : W (evE T Γ (.mk k es) σ S) Q = W (evEs T Γ es σ S) fun ds S => W (Γ (T.init k) (.ref S.length :: ds) (S ++ [.ins k []])) fun r S' => r = .non ∧ Q (.ref S.length) S' := by
  rw [evE, W_bind]; simp only [W_bind]
  congr; funext ds S; congr; funext r S'
  cases r <;> simp [W_ok, W_bad]
theorem e_bi {k : Bi} {es : CEs} : W (evE T Γ (.bi k es) σ S) Q = W (evEs T Γ es σ S) fun ds S => W (biD k ds S) Q := by rw [evE, W_bind]
theorem e_met {m : Me} {es : CEs} : W (evE T Γ (.met m a es) σ S) Q = W (evE T Γ a σ S) fun x S => (lstOf S x).isSome = true ∧ W (evEs T Γ es σ S) fun ds S => W (meD m x ds S) Q := by
  rw [evE, W_bind]
  congr; funext x S
  cases lstOf S x <;> simp [W_bad, W_bind]
theorem e_om {k m : Nat} {es : CEs} : W (evE T Γ (.om k m a es) σ S) Q = W (evE T Γ a σ S) fun x S => (insOf S x).map (·.1) = some k ∧ W (evEs T Γ es σ S) fun ds S => W (Γ (T.mth k m) (x :: ds) S) Q := by
  rw [evE, W_bind]
  congr; funext x S
  cases insOf S x with
  | none => simp [W_bad]
  | some p =>
    obtain ⟨d, vs⟩ := p
    simp only [W_ifb, W_bind, Option.map_some, Option.some.injEq]
theorem e_idx : W (evE T Γ (.idx a b) σ S) Q = W (evE T Γ a σ S) fun x S => W (evE T Γ b σ S) fun y S => W (idxD x y S) Q := by rw [evE, W_bind]; simp only [W_bind]
theorem e_slc {lo hi : CO} : W (evE T Γ (.slc a lo hi) σ S) Q = W (evE T Γ a σ S) fun x S => W (evO T Γ lo σ S) fun l S => W (evO T Γ hi σ S) fun h S => W (slcD x l h S) Q := by rw [evE, W_bind]; simp only [W_bind]
theorem e_fld {f : Nat} : W (evE T Γ (.fld a f) σ S) Q = W (evE T Γ a σ S) fun x S => W (fldD T f x S) Q := by rw [evE, W_bind]
theorem e_comp {g : Tg} {it : IT} {t : CQ} {own : List (Str × Nat)} : W (evE T Γ (.comp a g it t own) σ S) Q = W (evI T Γ it σ S) fun iv S1 => W (compL S1 iv (compF T Γ a g t own σ) (fuelOf S1 iv) 0 [] S1) fun ds S' => Q (.ref S'.length) (S' ++ [.lst ds]) := by
  rw [evE, W_bind]; simp only [W_bind, W_ok]
  rfl
theorem e_frz : W (evE T Γ (.frz a) σ S) Q = W (evE T Γ a σ S) fun d S' => W (shut S d S') Q := by rw [evE, W_bind]
end
section
variable {Q : Bool → Sto → Prop} {a b : CT}
theorem t_and : W (evT T Γ (.and a b) σ S) Q = W (evT T Γ a σ S) fun c S => if c = true then W (evT T Γ b σ S) Q else Q false S := by
  rw [evT, W_bind]; simp only [W_if, W_ok]
theorem t_or : W (evT T Γ (.or a b) σ S) Q = W (evT T Γ a σ S) fun c S => if c = true then Q true S else W (evT T Γ b σ S) Q := by
  rw [evT, W_bind]; simp only [W_if, W_ok]
theorem t_not : W (evT T Γ (.not a) σ S) Q = W (evT T Γ a σ S) fun c S => Q (!c) S := by
  rw [evT, W_bind]; simp only [W_ok]
theorem t_val {e : CE} : W (evT T Γ (.val e) σ S) Q = W (evE T Γ e σ S) fun d S => ∃ b, truD S d = some b ∧ Q b S := by
  rw [evT, W_bind]; simp only [W_opt]
theorem q_none : W (evQ T Γ .none σ S) Q = Q true S := by rw [evQ, W_ok]
theorem q_some : W (evQ T Γ (.some a) σ S) Q = W (evT T Γ a σ S) Q := by rw [evQ]
end
theorem es_nil {Q : List D → Sto → Prop} : W (evEs T Γ .nil σ S) Q = Q [] S := by rw [evEs, W_ok]
theorem es_cons {Q : List D → Sto → Prop} {e : CE} {es : CEs} : W (evEs T Γ (.cons e es) σ S) Q = W (evE T Γ e σ S) fun d S => W (evEs T Γ es σ S) fun ds S => Q (d :: ds) S := by
  rw [evEs, W_bind]; simp only [W_bind, W_ok]
theorem o_none {Q : Option Int → Sto → Prop} : W (evO T Γ .none σ S) Q = Q none S := by rw [evO, W_ok]
theorem o_some {Q : Option Int → Sto → Prop} {e : CE} : W (evO T Γ (.some e) σ S) Q = W (evE T Γ e σ S) fun d S => ∃ i, d = .int i ∧ Q (some i) S := by
  rw [evO, W_bind]
  congr; funext x S
  cases x <;> simp [partI, W_ok, W_bad]
section
variable {Q : IV → Sto → Prop} {a b : CE}
theorem i_val : W (evI T Γ (.val a) σ S) Q = W (evE T Γ a σ S) fun d S => (seqOf S d).isSome = true ∧ Q (.sq d) S := by
  rw [evI, W_bind]
  congr; funext x S
  cases seqOf S x <;> simp [W_ok, W_bad]
theorem i_rng : W (evI T Γ (.rng a) σ S) Q = W (evE T Γ a σ S) fun d S => ∃ j, d = .int j ∧ (-(2 ^ 62) ≤ j ∧ j < 2 ^ 62) ∧ Q (.rg 0 j.toNat) S := by
  rw [evI, W_bind]
  congr; funext x S
  cases x with
  | int j => simp only [W_ifb, W_ok, D.int.injEq, exEq]
  | _ => simp [W_bad]
theorem i_rng2 : W (evI T Γ (.rng2 a b) σ S) Q = W (evE T Γ a σ S) fun d S => W (evE T Γ b σ S) fun e S => ∃ i, d = .int i ∧ ∃ j, e = .int j ∧ (-(2 ^ 62) ≤ i ∧ i < 2 ^ 62 ∧ -(2 ^ 62) ≤ j ∧ j < 2 ^ 62) ∧ Q (.rg i (j - i).toNat) S := by
  rw [evI, W_bind]; simp only [W_bind]
  congr; funext x S; congr; funext y S
  cases x with
  | int i =>
    cases y with
    | int j => simp only [W_ifb, W_ok, D.int.injEq, exEq]
    | _ => simp [W_bad]
  | _ => simp [W_bad]
theorem i_enum : W (evI T Γ (.enum a) σ S) Q = W (evE T Γ a σ S) fun d S => (seqOf S d).isSome = true ∧ isTup d = false ∧ Q (.en d) S := by
  rw [evI, W_bind]
  congr; funext x S
  cases seqOf S x <;> simp [W_ok, W_bad, W_ifb]
theorem i_zip : W (evI T Γ (.zip a b) σ S) Q = W (evE T Γ a σ S) fun d S => W (evE T Γ b σ S) fun e S => (seqOf S d).isSome = true ∧ (seqOf S e).isSome = true ∧ isTup d = isTup e ∧ Q (.zp d e) S := by
  rw [evI, W_bind]; simp only [W_bind]
  congr; funext x S; congr; funext y S
  cases seqOf S x <;> cases seqOf S y <;> simp [W_ok, W_bad, W_ifb]
theorem i_rev : W (evI T Γ (.rev a) σ S) Q = W (evE T Γ a σ S) fun d S => ∃ xs, seqOf S d = some xs ∧ Q (.rv d xs.length) S := by
  rw [evI, W_bind]
  congr; funext x S
  cases seqOf S x <;> simp [W_ok, W_bad]
end
section
variable {Q : Fl → Sto → Prop} {e : CE} {b c : CB}
theorem ss_pass : W (evS T Γ .pass σ S) Q = Q (.next σ) S := by rw [evS, W_ok]
theorem ss_ret : W (evS T Γ (.ret e) σ S) Q = W (evE T Γ e σ S) fun d S => Q (.ret d) S := by rw [evS, W_bind]; simp only [W_ok]
theorem ss_retN : W (evS T Γ .retN σ S) Q = Q (.ret .non) S := by rw [evS, W_ok]
theorem ss_expr : W (evS T Γ (.expr e) σ S) Q = W (evE T Γ e σ S) fun _ S => Q (.next σ) S := by rw [evS, W_bind]; simp only [W_ok]
theorem ss_set {i : Nat} : W (evS T Γ (.set i e) σ S) Q = W (evE T Γ e σ S) fun d S => Q (.next (σ.set i (some d))) S := by rw [evS, W_bind]; simp only [W_ok]
theorem ss_tset {is : List Nat} : W (evS T Γ (.tset is e) σ S) Q = W (evE T Γ e σ S) fun d S => ∃ σ', asgT S (.tp is) d σ = some σ' ∧ Q (.next σ') S := by
  rw [evS, W_bind]
  congr; funext x S
  cases asgT S (.tp is) x σ <;> simp [W_ok, W_bad]
theorem ss_sub {o i : CE} : W (evS T Γ (.sub o i e) σ S) Q = W (evE T Γ e σ S) fun v S => W (evE T Γ o σ S) fun x S => W (evE T Γ i σ S) fun y S => W (setD x y v S) fun _ S => Q (.next σ) S := by rw [evS, W_bind]; simp only [W_bind, W_ok]
theorem ss_sfld {o : CE} {f : Nat} : W (evS T Γ (.sfld o f e) σ S) Q = W (evE T Γ e σ S) fun v S => W (evE T Γ o σ S) fun x S => W (sfldD T f x v S) fun _ S => Q (.next σ) S := by rw [evS, W_bind]; simp only [W_bind, W_ok]
theorem ss_aug {i : Nat} {op : Operator} : W (evS T Γ (.aug i op e) σ S) Q = ∃ x, σ[i]? = some (some x) ∧ W (evE T Γ e σ S) fun y S => W (augD op x y S) fun z S => Q (.next (σ.set i (some z))) S := by
  rw [evS]
  split
  · rename_i d e; rw [e, W_bind]; simp only [W_bind, W_ok, Option.some.injEq, exEq]
  · rename_i n; rw [W_bad]; exact propext ⟨False.elim, fun ⟨d, e, _⟩ => n d e⟩
theorem ss_ite {t : CT} : W (evS T Γ (.ite t b c) σ S) Q = W (evT T Γ t σ S) fun v S => if v = true then W (evB T Γ b σ S) Q else W (evB T Γ c σ S) Q := by
  rw [evS, W_bind]; simp only [W_if]
theorem ss_for {g : Tg} {it : IT} : W (evS T Γ (.for_ g it b) σ S) Q = W (evI T Γ it σ S) fun iv S1 => W (forL iv (forF T Γ g b) (fuelOf S1 iv) 0 σ S1) Q := by
  rw [evS, W_bind]
  rfl
theorem ss_whl {n : Nat} {t : CT} : W (evS T Γ (.whl n t b) σ S) Q = W (whlL (evT T Γ t) (evB T Γ b) n σ S) Q := by rw [evS]
theorem ss_brk : W (evS T Γ .brk σ S) Q = Q (.brk σ) S := by rw [evS, W_ok]
theorem ss_cnt : W (evS T Γ .cnt σ S) Q = Q (.cnt σ) S := by rw [evS, W_ok]
theorem b_nil : W (evB T Γ .nil σ S) Q = Q (.next σ) S := by rw [evB, W_ok]
theorem b_cons {s : CS} : W (evB T Γ (.cons s b) σ S) Q = W (evS T Γ s σ S) (kB T Γ b Q) := by
  rw [evB, W_bind]
  congr; funext fl S
  cases fl <;> simp [kB, W_ok]
theorem k_next : kB T Γ b Q (.next σ) S = W (evB T Γ b σ S) Q := by cases S <;> rfl
theorem k_ret {d : D} : kB T Γ b Q (.ret d) S = Q (.ret d) S := by cases S <;> rfl
theorem k_brk : kB T Γ b Q (.brk σ) S = Q (.brk σ) S := by cases S <;> rfl
theorem k_cnt : kB T Γ b Q (.cnt σ) S = Q (.cnt σ) S := by cases S <;> rfl
theorem f_for {g : Tg} {x : D} : W (forF T Γ g b x σ S) Q = ∃ σ', asgT S g x σ = some σ' ∧ W (evB T Γ b σ' S) Q := by
  unfold forF
  split
  · rename_i e; rw [W_bad, e]; simp
  · rename_i σ' e; rw [e]; simp
end
theorem f_comp {e : CE} {g : Tg} {t : CQ} {own : List (Str × Nat)} {x : D} {Q : Option D → Sto → Prop} : W (compF T Γ e g t own σ x S) Q = ∃ σ', asgT S g x (wipeD σ (own.map (·.2))) = some σ' ∧ W (evQ T Γ t σ' S) fun b S => if b = true then W (evE T Γ e σ' S) fun y S => Q (some y) S else Q none S := by
  unfold compF
  split
  · rename_i e; rw [W_bad, e]; simp
  · rename_i σ' e; rw [e, W_bind]; simp [W_if, W_bind, W_ok]
theorem a_nm {i : Nat} {x : D} : asgT S (.nm i) x σ = some (σ.set i (some x)) := by cases S <;> rfl
theorem a_tp {is : List Nat} {xs : List D} : asgT S (.tp is) (.tup xs) σ = setsT is xs σ := by cases S <;> rfl
theorem sets_nil : setsT [] [] σ = some σ := by cases σ <;> rfl
theorem sets_cons {i : Nat} {is : List Nat} {d : D} {ds : List D} : setsT (i :: is) (d :: ds) σ = setsT is ds (σ.set i (some d)) := by rw [setsT]
theorem wipe_nil : wipeD σ [] = σ := by rw [wipeD]
theorem wipe_cons {v : Nat} {vs : List Nat} : wipeD σ (v :: vs) = (wipeD σ vs).set v none := by rw [wipeD]
theorem tru_bl {b : Bool} : truD S (.bl b) = some b := by rw [truD]
theorem tru_int {i : Int} : truD S (.int i) = some (i != 0) := by rw [truD]
theorem tru_lst {xs : List D} : truD S (.lst xs) = some (!xs.isEmpty) := by cases S <;> rfl
theorem tru_tup {xs : List D} : truD S (.tup xs) = some (!xs.isEmpty) := by cases S <;> rfl
theorem tru_ref {n : Nat} {xs : List D} (h : S[n]? = some (.lst xs)) : truD S (.ref n) = some (!xs.isEmpty) := by
  show (seqOf S (.ref n)).map _ = _
  rw [seqOf, h]; rfl
theorem seq_lst {xs : List D} : seqOf S (.lst xs) = some xs := by cases S <;> rfl
theorem seq_tup {xs : List D} : seqOf S (.tup xs) = some xs := by cases S <;> rfl
theorem seq_ref {n : Nat} {xs : List D} (h : S[n]? = some (.lst xs)) : seqOf S (.ref n) = some xs := by rw [seqOf, h]
theorem lst_lst {xs : List D} : lstOf S (.lst xs) = some xs := by cases S <;> rfl
theorem lst_ref {n : Nat} {xs : List D} (h : S[n]? = some (.lst xs)) : lstOf S (.ref n) = some xs := by rw [lstOf, h]
section
variable {Q : D → Sto → Prop}
theorem bi_len {xs : List D} : W (biD .len [.lst xs] S) Q = Q (.int xs.length) S := by
  rw [show biD .len [.lst xs] S = .ok (.int xs.length) S from rfl, W_ok]
theorem bi_lenT {xs : List D} : W (biD .len [.tup xs] S) Q = Q (.int xs.length) S := by
  rw [show biD .len [.tup xs] S = .ok (.int xs.length) S from rfl, W_ok]
theorem bi_lenR {n : Nat} {xs : List D} (h : S[n]? = some (.lst xs)) : W (biD .len [.ref n] S) Q = Q (.int xs.length) S := by
  show W ((optR S (seqOf S (.ref n))).bind _) Q = _
  rw [seq_ref h]; simp only [optR_some, bind_ok, W_ok]
theorem bi_abs {i : Int} : W (biD .abs [.int i] S) Q = Q (.int (if i < 0 then -i else i)) S := by rw [biD, W_ok]
theorem bi_int {i : Int} : W (biD .int [.int i] S) Q = Q (.int i) S := by rw [biD, W_ok]
theorem bi_min2 {i j : Int} : W (biD .min2 [.int i, .int j] S) Q = Q (.int (if j < i then j else i)) S := by rw [biD, W_ok]
theorem bi_max2 {i j : Int} : W (biD .max2 [.int i, .int j] S) Q = Q (.int (if j > i then j else i)) S := by rw [biD, W_ok]
theorem bi_list {d : D} {xs : List D} (h : seqOf S d = some xs) : W (biD .list [d] S) Q = Q (.ref S.length) (S ++ [.lst xs]) := by
  rw [biD, W_bind, h, W_opt]; simp only [Option.some.injEq, exEq, W_ok]
theorem bi_tuple {d : D} {xs : List D} (h : seqOf S d = some xs) : W (biD .tuple [d] S) Q = Q (.tup xs) S := by
  rw [biD, W_bind, h, W_opt]; simp only [Option.some.injEq, exEq, W_ok]
theorem bi_listL {xs : List D} : W (biD .list [.lst xs] S) Q = Q (.ref S.length) (S ++ [.lst xs]) := bi_list seq_lst
theorem bi_tupleL {xs : List D} : W (biD .tuple [.lst xs] S) Q = Q (.tup xs) S := bi_tuple seq_lst
theorem intsOf_il : ∀ l : List Int, intsOf (il l) = some l
  | [] => rfl
  | x :: l => by
    show (intsOf (il l)).map _ = _
    rw [intsOf_il l]; rfl
theorem bi_sum {l : List Int} : W (biD .sum [.lst (il l)] S) Q = Q (.int l.sum) S := by
  rw [biD, W_bind, lst_lst, Option.bind_some, intsOf_il, W_opt]; simp only [Option.some.injEq, exEq, W_ok]
end
end
end Py
/-! The tape that the laws share. -/
namespace Py
open PySem
def cTake : CF := ⟨5, 2, false, (.cons (.set 2 (.idx (.slot 0) (.int 0)))
    (.cons (.sub (.slot 0) (.int 0) (.bin .Add (.slot 2) (.int 1)))
    (.cons (.ite (.val (.cmp .Lt (.slot 2) (.bi .len (.cons (.idx (.slot 0) (.int 1)) .nil))))
    (.cons (.ret (.bin .Mod (.bi .int (.cons (.idx (.idx (.slot 0) (.int 1)) (.slot 2)) .nil)) (.slot 1)))
    .nil)
    .nil)
    (.cons (.set 3 (.bin .Mod (.bi .int (.cons (.bin .Add (.idx (.slot 0) (.int 2)) (.bin .Mult (.slot 2) (.int 48271))) .nil)) (.int 2147483647)))
    (.cons (.set 4 (.bin .Mod (.bi .int (.cons (.bin .Add (.bin .Add (.bin .Mult (.slot 3) (.int 69621)) (.bin .Mult (.slot 2) (.slot 2))) (.int 3)) .nil)) (.int 2147483629)))
    (.cons (.ret (.bin .Mod (.bin .Mod (.bi .int (.cons (.bin .Add (.bin .Mult (.slot 4) (.slot 4)) (.slot 3)) .nil)) (.int 1000003)) (.slot 1)))
    .nil))))))⟩
/-- the tape as an entry of the store -/
def tapeO (at_ : Nat) (row : List Int) (seed : Int) : O := .lst [.int at_, .lst (il row), .int seed]
theorem tapeO_pure {a : Nat} {r : List Int} {s : Int} : (tapeO a r s).pure = true := by
  simp [tapeO, O.pure, D.pures, D.pure, pures_il]
/-- a tape from which at most b numbers were taken -/
def Tp (b : Nat) (o : O) : Prop := ∃ a r s, o = tapeO a r s ∧ a ≤ b
theorem Tp.pure {b : Nat} {o : O} (h : Tp b o) : o.pure = true := by
  obtain ⟨a, r, s, rfl, _⟩ := h
  exact tapeO_pure
theorem Tp.mono {b c : Nat} {o : O} (h : Tp b o) (hc : b ≤ c) : Tp c o := by
  obtain ⟨a, r, s, e, h⟩ := h
  exact ⟨a, r, s, e, by omega⟩
theorem take_ok {T : Tab} {P : Nat → Option CF} {k f : Nat} (hP : P f = some cTake) {S : Sto} {t b : Nat} {o : O} {n : Int} (ho : S[t]? = some o) (h : Tp b o) (hb : b < 2 ^ 60) (hn : 0 < n) :
    W (sem T P (k + 1) f [.ref t, .int n] S) fun d S' => ∃ v o', d = .int v ∧ 0 ≤ v ∧ v < n ∧ S' = S.set t o' ∧ Tp (b + 1) o' := by
  obtain ⟨a, r, s, rfl, ha⟩ := h
  have ht : t < S.length := by
    rcases Nat.lt_or_ge t S.length with g | g
    · exact g
    · rw [List.getElem?_eq_none g] at ho; cases ho
  have tp : Tp (b + 1) (tapeO (a + 1) r s) := ⟨a + 1, r, s, rfl, by omega⟩
  have fin : ∀ v : Int, 0 ≤ v → v < n → W (shutK S (.int v) (S.set t (tapeO (a + 1) r s))) fun d S' => ∃ v o', d = .int v ∧ 0 ≤ v ∧ v < n ∧ S' = S.set t o' ∧ Tp (b + 1) o' := by
    intro v h1 h2
    rw [shutK_pure ((Gr.refl S).set tapeO_pure) rfl, W_ok]
    exact ⟨v, _, rfl, h1, h2, by rw [List.take_of_length_le (by simp)], tp⟩
  have i0 : idxD (.ref t) (.int 0) S = .ok (.int a) S := idx_seq (xs := [.int a, .lst (il r), .int s]) (k := 0) (by simp [seqOf, ho, tapeO]) rfl (fun _ e => by cases e)
  have s0 : setD (.ref t) (.int 0) (.int ((a : Int) + 1)) S = .ok () (S.set t (tapeO (a + 1) r s)) := by
    simp [setD, ho, tapeO, ixD]
  have go : (S.set t (tapeO (a + 1) r s))[t]? = some (tapeO (a + 1) r s) := by simp [ht]
  have i1 : idxD (.ref t) (.int 1) (S.set t (tapeO (a + 1) r s)) = .ok (.lst (il r)) (S.set t (tapeO (a + 1) r s)) := idx_seq (xs := [.int ((a + 1 : Nat) : Int), .lst (il r), .int s]) (k := 1) (by simp only [seqOf, go]; rfl) rfl (fun _ e => by cases e)
  have i2 : idxD (.ref t) (.int 2) (S.set t (tapeO (a + 1) r s)) = .ok (.int s) (S.set t (tapeO (a + 1) r s)) := idx_seq (xs := [.int ((a + 1 : Nat) : Int), .lst (il r), .int s]) (k := 2) (by simp only [seqOf, go]; rfl) rfl (fun _ e => by cases e)
  refine W_run hP rfl rfl ?_
  simp only [cTake, b_nil, b_cons, k_next, k_ret, k_brk, k_cnt, f_for, f_comp, ss_pass, ss_ret, ss_retN, ss_expr, ss_set, ss_tset, ss_sub, ss_sfld, ss_aug, ss_ite, ss_for, ss_whl, ss_brk, ss_cnt, e_slot, e_non, e_bl, e_int, e_str, e_bin, e_neg, e_inv, e_cmp, e_chain, e_and, e_or, e_not, e_ife, e_tup, e_lst, e_call, e_mk, e_bi, e_met, e_om, e_idx, e_slc, e_fld, e_comp, e_frz, t_and, t_or, t_not, t_val, q_none, q_some, es_nil, es_cons, o_none, o_some, i_val, i_rng, i_rng2, i_enum, i_zip, i_rev, a_nm, a_tp, sets_nil, sets_cons, wipe_nil, wipe_cons, tru_bl, tru_int, seq_lst, seq_tup, lst_lst, bi_len, bi_lenT, bi_abs, bi_int, bi_min2, bi_max2, bi_listL, bi_tupleL, bi_sum, W_ok, b_add, b_sub, b_mul, b_div, b_mod, b_pow, b_shl, b_shr, b_and, b_or, b_xor, c_eq, c_ne, c_lt, c_le, c_gt, c_ge, c_eqb, c_neb, endW_ret, endW_next, stepW_next, stepW_cnt, stepW_brk, stepW_ret, List.map_cons, List.map_nil, List.length_cons, List.length_nil, List.replicate, List.cons_append, List.nil_append, List.set_cons_zero, List.set_cons_succ, List.getElem?_cons_zero, List.getElem?_cons_succ, Option.some.injEq, D.int.injEq, D.bl.injEq, exEq, exists_eq_left', if_true, if_false, Bool.false_eq_true, decide_eq_true_eq, Option.isSome_some, true_and, reduceCtorEq, Int.toNat_natCast, Nat.reduceAdd, Nat.reduceSub, i0, s0, i1, List.length_map]
  by_cases hl : (a : Int) < (r.length : Int)
  · simp only [hl, b_nil, b_cons, k_next, k_ret, k_brk, k_cnt, f_for, f_comp, ss_pass, ss_ret, ss_retN, ss_expr, ss_set, ss_tset, ss_sub, ss_sfld, ss_aug, ss_ite, ss_for, ss_whl, ss_brk, ss_cnt, e_slot, e_non, e_bl, e_int, e_str, e_bin, e_neg, e_inv, e_cmp, e_chain, e_and, e_or, e_not, e_ife, e_tup, e_lst, e_call, e_mk, e_bi, e_met, e_om, e_idx, e_slc, e_fld, e_comp, e_frz, t_and, t_or, t_not, t_val, q_none, q_some, es_nil, es_cons, o_none, o_some, i_val, i_rng, i_rng2, i_enum, i_zip, i_rev, a_nm, a_tp, sets_nil, sets_cons, wipe_nil, wipe_cons, tru_bl, tru_int, seq_lst, seq_tup, lst_lst, bi_len, bi_lenT, bi_abs, bi_int, bi_min2, bi_max2, bi_listL, bi_tupleL, bi_sum, W_ok, b_add, b_sub, b_mul, b_div, b_mod, b_pow, b_shl, b_shr, b_and, b_or, b_xor, c_eq, c_ne, c_lt, c_le, c_gt, c_ge, c_eqb, c_neb, endW_ret, endW_next, stepW_next, stepW_cnt, stepW_brk, stepW_ret, List.map_cons, List.map_nil, List.length_cons, List.length_nil, List.replicate, List.cons_append, List.nil_append, List.set_cons_zero, List.set_cons_succ, List.getElem?_cons_zero, List.getElem?_cons_succ, Option.some.injEq, D.int.injEq, D.bl.injEq, exEq, exists_eq_left', if_true, if_false, Bool.false_eq_true, decide_eq_true_eq, Option.isSome_some, true_and, reduceCtorEq, Int.toNat_natCast, Nat.reduceAdd, Nat.reduceSub, i1, idx_il (show a < r.length by omega)]
    refine ⟨by omega, ?_⟩
    rw [Int.fmod_eq_emod_of_nonneg _ (by omega)]
    exact fin _ (Int.emod_nonneg _ (by omega)) (Int.emod_lt_of_pos _ hn)
  · simp only [hl, b_nil, b_cons, k_next, k_ret, k_brk, k_cnt, f_for, f_comp, ss_pass, ss_ret, ss_retN, ss_expr, ss_set, ss_tset, ss_sub, ss_sfld, ss_aug, ss_ite, ss_for, ss_whl, ss_brk, ss_cnt, e_slot, e_non, e_bl, e_int, e_str, e_bin, e_neg, e_inv, e_cmp, e_chain, e_and, e_or, e_not, e_ife, e_tup, e_lst, e_call, e_mk, e_bi, e_met, e_om, e_idx, e_slc, e_fld, e_comp, e_frz, t_and, t_or, t_not, t_val, q_none, q_some, es_nil, es_cons, o_none, o_some, i_val, i_rng, i_rng2, i_enum, i_zip, i_rev, a_nm, a_tp, sets_nil, sets_cons, wipe_nil, wipe_cons, tru_bl, tru_int, seq_lst, seq_tup, lst_lst, bi_len, bi_lenT, bi_abs, bi_int, bi_min2, bi_max2, bi_listL, bi_tupleL, bi_sum, W_ok, b_add, b_sub, b_mul, b_div, b_mod, b_pow, b_shl, b_shr, b_and, b_or, b_xor, c_eq, c_ne, c_lt, c_le, c_gt, c_ge, c_eqb, c_neb, endW_ret, endW_next, stepW_next, stepW_cnt, stepW_brk, stepW_ret, List.map_cons, List.map_nil, List.length_cons, List.length_nil, List.replicate, List.cons_append, List.nil_append, List.set_cons_zero, List.set_cons_succ, List.getElem?_cons_zero, List.getElem?_cons_succ, Option.some.injEq, D.int.injEq, D.bl.injEq, exEq, exists_eq_left', if_true, if_false, Bool.false_eq_true, decide_eq_true_eq, Option.isSome_some, true_and, reduceCtorEq, Int.toNat_natCast, Nat.reduceAdd, Nat.reduceSub, i2]
    refine ⟨mulOk_r (by omega) (by omega), by omega, mulOk_r (by omega) (by omega), mulOk_l (by omega) (by omega), by omega, ?_⟩
    rw [Int.fmod_eq_emod_of_nonneg _ (by omega : (0 : Int) ≤ 2147483647), Int.fmod_eq_emod_of_nonneg _ (by omega : (0 : Int) ≤ 2147483629)]
    refine ⟨mulOk_l ?_ ?_, by omega, by omega, ?_⟩
    · have := Int.emod_nonneg ((s + a * 48271) % 2147483647 * 69621 + a * a + 3) (show (2147483629 : Int) ≠ 0 by omega)
      omega
    · have := Int.emod_lt_of_pos ((s + a * 48271) % 2147483647 * 69621 + a * a + 3) (show (0 : Int) < 2147483629 by omega)
      omega
    rw [Int.fmod_eq_emod_of_nonneg _ (show 0 ≤ n by omega)]
    exact fin _ (Int.emod_nonneg _ (by omega)) (Int.emod_lt_of_pos _ hn)
end Py
namespace Py
open PySem
def cTape : CF := ⟨7, 1, false, (.cons (.set 1 (.lst .nil))
    (.cons (.set 2 (.int 7))
    (.cons (.for_ (.nm 3) (.rng (.bi .min2 (.cons (.bi .len (.cons (.slot 0) .nil)) (.cons (.int 63) .nil))))
    (.cons (.set 4 (.bi .abs (.cons (.bi .int (.cons (.idx (.slot 0) (.slot 3)) .nil)) .nil)))
    (.cons (.set 2 (.bin .Mod (.bi .int (.cons (.bin .Add (.bin .Add (.bin .Mult (.slot 2) (.int 48271)) (.slot 4)) (.int 13)) .nil)) (.int 2147483647)))
    (.cons (.ite (.val (.cmp .GtE (.slot 4) (.bin .Pow (.int 10) (.int 18))))
    (.cons (.for_ (.nm 5) (.rng (.int 30))
    (.cons (.ite (.val (.cmp .Gt (.slot 4) (.int 0)))
    (.cons (.expr (.met .append (.slot 1) (.cons (.bin .Mod (.bi .int (.cons (.slot 4) .nil)) (.int 9973)) .nil)))
    (.cons (.set 4 (.bin .FloorDiv (.slot 4) (.int 9973)))
    .nil))
    .nil)
    .nil))
    .nil)
    (.cons (.for_ (.nm 5) (.rng (.int 6))
    (.cons (.set 6 (.bin .Mod (.bi .int (.cons (.bin .Add (.bin .Add (.bin .Add (.bin .Mult (.slot 4) (.int 48271)) (.bin .Mult (.slot 3) (.int 69621))) (.bin .Mult (.slot 5) (.int 16807))) (.int 5)) .nil)) (.int 2147483647)))
    (.cons (.expr (.met .append (.slot 1) (.cons (.bin .Mod (.bi .int (.cons (.bin .Add (.bin .Mult (.slot 6) (.slot 6)) (.slot 5)) .nil)) (.int 2147483629)) .nil)))
    .nil)))
    .nil))
    .nil))))
    (.cons (.ret (.lst (.cons (.int 0) (.cons (.slot 1) (.cons (.slot 2) .nil)))))
    .nil))))⟩
theorem app_new {S X : Sto} {xs : List D} {y : D} (hl : xs.length < lim) : meD .append (.ref S.length) [y] (S ++ .lst xs :: X) = .ok .non (S ++ .lst (xs ++ [y]) :: X) := by
  show (match (S ++ O.lst xs :: X)[S.length]? with | some (.lst xs) => _ | _ => _) = _
  rw [List.getElem?_append_right (Nat.le_refl _)]
  simp [hl]
theorem lst_new {S X : Sto} {xs : List D} : lstOf (S ++ .lst xs :: X) (.ref S.length) = some xs := lst_ref (by simp)
theorem tape_ok {T : Tab} {P : Nat → Option CF} {k f : Nat} (hP : P f = some cTape) {S : Sto} {ns : List Int} (hn : ns.length ≤ 63) :
    W (sem T P (k + 1) f [.lst (il ns)] S) fun d S' => ∃ o, d = .ref S.length ∧ S' = S ++ [o] ∧ Tp 0 o := by
  refine W_run hP rfl rfl ?_
  simp only [cTape, b_nil, b_cons, k_next, k_ret, k_brk, k_cnt, f_for, f_comp, ss_pass, ss_ret, ss_retN, ss_expr, ss_set, ss_tset, ss_sub, ss_sfld, ss_aug, ss_ite, ss_for, ss_whl, ss_brk, ss_cnt, e_slot, e_non, e_bl, e_int, e_str, e_bin, e_neg, e_inv, e_cmp, e_chain, e_and, e_or, e_not, e_ife, e_tup, e_lst, e_call, e_mk, e_bi, e_met, e_om, e_idx, e_slc, e_fld, e_comp, e_frz, t_and, t_or, t_not, t_val, q_none, q_some, es_nil, es_cons, o_none, o_some, i_val, i_rng, i_rng2, i_enum, i_zip, i_rev, a_nm, a_tp, sets_nil, sets_cons, wipe_nil, wipe_cons, tru_bl, tru_int, seq_lst, seq_tup, lst_lst, bi_len, bi_lenT, bi_abs, bi_int, bi_min2, bi_max2, bi_listL, bi_tupleL, bi_sum, W_ok, b_add, b_sub, b_mul, b_div, b_mod, b_pow, b_shl, b_shr, b_and, b_or, b_xor, c_eq, c_ne, c_lt, c_le, c_gt, c_ge, c_eqb, c_neb, endW_ret, endW_next, stepW_next, stepW_cnt, stepW_brk, stepW_ret, List.map_cons, List.map_nil, List.length_cons, List.length_nil, List.replicate, List.cons_append, List.nil_append, List.set_cons_zero, List.set_cons_succ, List.getElem?_cons_zero, List.getElem?_cons_succ, Option.some.injEq, D.int.injEq, D.bl.injEq, exEq, exists_eq_left', if_true, if_false, Bool.false_eq_true, decide_eq_true_eq, Option.isSome_some, true_and, reduceCtorEq, Int.toNat_natCast, Nat.reduceAdd, Nat.reduceSub, List.length_map]
  refine ⟨by decide, by split <;> omega, ?_⟩
  -- the row so far: its length is bounded
  refine W_forR0 (fun i σ S' => ∃ (row : List Int) (seed : Int) (y3 y4 y5 y6 : Option D), σ = [some (.lst (il ns)), some (.ref S.length), some (.int seed), y3, y4, y5, y6] ∧ S' = S ++ [.lst (il row)] ∧ row.length ≤ 30 * i)
    ⟨[], 7, none, none, none, none, rfl, rfl, by simp⟩ (fun i σ S' hi h => ?_) (fun σ S' h => ?_)
  · obtain ⟨row, seed, y3, y4, y5, y6, rfl, rfl, hr⟩ := h
    have hil : i < ns.length := by split at hi <;> omega
    have hi63 : i < 63 := by omega
    simp only [b_nil, b_cons, k_next, k_ret, k_brk, k_cnt, f_for, f_comp, ss_pass, ss_ret, ss_retN, ss_expr, ss_set, ss_tset, ss_sub, ss_sfld, ss_aug, ss_ite, ss_for, ss_whl, ss_brk, ss_cnt, e_slot, e_non, e_bl, e_int, e_str, e_bin, e_neg, e_inv, e_cmp, e_chain, e_and, e_or, e_not, e_ife, e_tup, e_lst, e_call, e_mk, e_bi, e_met, e_om, e_idx, e_slc, e_fld, e_comp, e_frz, t_and, t_or, t_not, t_val, q_none, q_some, es_nil, es_cons, o_none, o_some, i_val, i_rng, i_rng2, i_enum, i_zip, i_rev, a_nm, a_tp, sets_nil, sets_cons, wipe_nil, wipe_cons, tru_bl, tru_int, seq_lst, seq_tup, lst_lst, bi_len, bi_lenT, bi_abs, bi_int, bi_min2, bi_max2, bi_listL, bi_tupleL, bi_sum, W_ok, b_add, b_sub, b_mul, b_div, b_mod, b_pow, b_shl, b_shr, b_and, b_or, b_xor, c_eq, c_ne, c_lt, c_le, c_gt, c_ge, c_eqb, c_neb, endW_ret, endW_next, stepW_next, stepW_cnt, stepW_brk, stepW_ret, List.map_cons, List.map_nil, List.length_cons, List.length_nil, List.replicate, List.cons_append, List.nil_append, List.set_cons_zero, List.set_cons_succ, List.getElem?_cons_zero, List.getElem?_cons_succ, Option.some.injEq, D.int.injEq, D.bl.injEq, exEq, exists_eq_left', if_true, if_false, Bool.false_eq_true, decide_eq_true_eq, Option.isSome_some, true_and, reduceCtorEq, Int.toNat_natCast, Nat.reduceAdd, Nat.reduceSub, idx_il hil]
    refine ⟨mulOk_r (by omega) (by omega), by omega, ⟨by omega, by omega, by omega⟩, ?_⟩
    generalize hc : (if ns.getD i 0 < 0 then -ns.getD i 0 else ns.getD i 0) = cell
    have hc0 : 0 ≤ cell := by split at hc <;> omega
    generalize ((seed * 48271 + cell + 13).fmod 2147483647) = seed'
    split
    · refine ⟨⟨by omega, by omega⟩, ?_⟩
      refine W_forR0 (n := 30) (fun j σ S' => ∃ (row' : List Int) (cell' : Int) (y5 : Option D), σ = [some (.lst (il ns)), some (.ref S.length), some (.int seed'), some (.int i), some (.int cell'), y5, y6] ∧ S' = S ++ [.lst (il row')] ∧ row'.length ≤ 30 * i + j)
        ⟨row, cell, y5, rfl, rfl, by omega⟩ (fun j σ S' hj h => ?_) (fun σ S' h => ?_)
      · obtain ⟨row', cell', y5, rfl, rfl, hr'⟩ := h
        simp only [b_nil, b_cons, k_next, k_ret, k_brk, k_cnt, f_for, f_comp, ss_pass, ss_ret, ss_retN, ss_expr, ss_set, ss_tset, ss_sub, ss_sfld, ss_aug, ss_ite, ss_for, ss_whl, ss_brk, ss_cnt, e_slot, e_non, e_bl, e_int, e_str, e_bin, e_neg, e_inv, e_cmp, e_chain, e_and, e_or, e_not, e_ife, e_tup, e_lst, e_call, e_mk, e_bi, e_met, e_om, e_idx, e_slc, e_fld, e_comp, e_frz, t_and, t_or, t_not, t_val, q_none, q_some, es_nil, es_cons, o_none, o_some, i_val, i_rng, i_rng2, i_enum, i_zip, i_rev, a_nm, a_tp, sets_nil, sets_cons, wipe_nil, wipe_cons, tru_bl, tru_int, seq_lst, seq_tup, lst_lst, bi_len, bi_lenT, bi_abs, bi_int, bi_min2, bi_max2, bi_listL, bi_tupleL, bi_sum, W_ok, b_add, b_sub, b_mul, b_div, b_mod, b_pow, b_shl, b_shr, b_and, b_or, b_xor, c_eq, c_ne, c_lt, c_le, c_gt, c_ge, c_eqb, c_neb, endW_ret, endW_next, stepW_next, stepW_cnt, stepW_brk, stepW_ret, List.map_cons, List.map_nil, List.length_cons, List.length_nil, List.replicate, List.cons_append, List.nil_append, List.set_cons_zero, List.set_cons_succ, List.getElem?_cons_zero, List.getElem?_cons_succ, Option.some.injEq, D.int.injEq, D.bl.injEq, exEq, exists_eq_left', if_true, if_false, Bool.false_eq_true, decide_eq_true_eq, Option.isSome_some, true_and, reduceCtorEq, Int.toNat_natCast, Nat.reduceAdd, Nat.reduceSub]
        split
        · simp only [b_nil, b_cons, k_next, k_ret, k_brk, k_cnt, f_for, f_comp, ss_pass, ss_ret, ss_retN, ss_expr, ss_set, ss_tset, ss_sub, ss_sfld, ss_aug, ss_ite, ss_for, ss_whl, ss_brk, ss_cnt, e_slot, e_non, e_bl, e_int, e_str, e_bin, e_neg, e_inv, e_cmp, e_chain, e_and, e_or, e_not, e_ife, e_tup, e_lst, e_call, e_mk, e_bi, e_met, e_om, e_idx, e_slc, e_fld, e_comp, e_frz, t_and, t_or, t_not, t_val, q_none, q_some, es_nil, es_cons, o_none, o_some, i_val, i_rng, i_rng2, i_enum, i_zip, i_rev, a_nm, a_tp, sets_nil, sets_cons, wipe_nil, wipe_cons, tru_bl, tru_int, seq_lst, seq_tup, lst_lst, bi_len, bi_lenT, bi_abs, bi_int, bi_min2, bi_max2, bi_listL, bi_tupleL, bi_sum, W_ok, b_add, b_sub, b_mul, b_div, b_mod, b_pow, b_shl, b_shr, b_and, b_or, b_xor, c_eq, c_ne, c_lt, c_le, c_gt, c_ge, c_eqb, c_neb, endW_ret, endW_next, stepW_next, stepW_cnt, stepW_brk, stepW_ret, List.map_cons, List.map_nil, List.length_cons, List.length_nil, List.replicate, List.cons_append, List.nil_append, List.set_cons_zero, List.set_cons_succ, List.getElem?_cons_zero, List.getElem?_cons_succ, Option.some.injEq, D.int.injEq, D.bl.injEq, exEq, exists_eq_left', if_true, if_false, Bool.false_eq_true, decide_eq_true_eq, Option.isSome_some, true_and, reduceCtorEq, Int.toNat_natCast, Nat.reduceAdd, Nat.reduceSub, lst_new]
          refine ⟨by omega, ?_⟩
          rw [app_new (by simp [lim]; omega), W_ok]
          refine ⟨by decide, ?_⟩
          exact ⟨row' ++ [cell'.fmod 9973], _, _, rfl, by simp, by simp; omega⟩
        · exact ⟨row', cell', _, rfl, rfl, by omega⟩
      · obtain ⟨row', cell', y5, rfl, rfl, hr'⟩ := h
        simp only [b_nil, b_cons, k_next, k_ret, k_brk, k_cnt, f_for, f_comp, ss_pass, ss_ret, ss_retN, ss_expr, ss_set, ss_tset, ss_sub, ss_sfld, ss_aug, ss_ite, ss_for, ss_whl, ss_brk, ss_cnt, e_slot, e_non, e_bl, e_int, e_str, e_bin, e_neg, e_inv, e_cmp, e_chain, e_and, e_or, e_not, e_ife, e_tup, e_lst, e_call, e_mk, e_bi, e_met, e_om, e_idx, e_slc, e_fld, e_comp, e_frz, t_and, t_or, t_not, t_val, q_none, q_some, es_nil, es_cons, o_none, o_some, i_val, i_rng, i_rng2, i_enum, i_zip, i_rev, a_nm, a_tp, sets_nil, sets_cons, wipe_nil, wipe_cons, tru_bl, tru_int, seq_lst, seq_tup, lst_lst, bi_len, bi_lenT, bi_abs, bi_int, bi_min2, bi_max2, bi_listL, bi_tupleL, bi_sum, W_ok, b_add, b_sub, b_mul, b_div, b_mod, b_pow, b_shl, b_shr, b_and, b_or, b_xor, c_eq, c_ne, c_lt, c_le, c_gt, c_ge, c_eqb, c_neb, endW_ret, endW_next, stepW_next, stepW_cnt, stepW_brk, stepW_ret, List.map_cons, List.map_nil, List.length_cons, List.length_nil, List.replicate, List.cons_append, List.nil_append, List.set_cons_zero, List.set_cons_succ, List.getElem?_cons_zero, List.getElem?_cons_succ, Option.some.injEq, D.int.injEq, D.bl.injEq, exEq, exists_eq_left', if_true, if_false, Bool.false_eq_true, decide_eq_true_eq, Option.isSome_some, true_and, reduceCtorEq, Int.toNat_natCast, Nat.reduceAdd, Nat.reduceSub]
        exact ⟨row', seed', _, _, _, _, rfl, rfl, by omega⟩
    · refine ⟨⟨by omega, by omega⟩, ?_⟩
      refine W_forR0 (n := 6) (fun j σ S' => ∃ (row' : List Int) (y5 y6 : Option D), σ = [some (.lst (il ns)), some (.ref S.length), some (.int seed'), some (.int i), some (.int cell), y5, y6] ∧ S' = S ++ [.lst (il row')] ∧ row'.length ≤ 30 * i + j)
        ⟨row, y5, y6, rfl, rfl, by omega⟩ (fun j σ S' hj h => ?_) (fun σ S' h => ?_)
      · obtain ⟨row', y5, y6, rfl, rfl, hr'⟩ := h
        simp only [b_nil, b_cons, k_next, k_ret, k_brk, k_cnt, f_for, f_comp, ss_pass, ss_ret, ss_retN, ss_expr, ss_set, ss_tset, ss_sub, ss_sfld, ss_aug, ss_ite, ss_for, ss_whl, ss_brk, ss_cnt, e_slot, e_non, e_bl, e_int, e_str, e_bin, e_neg, e_inv, e_cmp, e_chain, e_and, e_or, e_not, e_ife, e_tup, e_lst, e_call, e_mk, e_bi, e_met, e_om, e_idx, e_slc, e_fld, e_comp, e_frz, t_and, t_or, t_not, t_val, q_none, q_some, es_nil, es_cons, o_none, o_some, i_val, i_rng, i_rng2, i_enum, i_zip, i_rev, a_nm, a_tp, sets_nil, sets_cons, wipe_nil, wipe_cons, tru_bl, tru_int, seq_lst, seq_tup, lst_lst, bi_len, bi_lenT, bi_abs, bi_int, bi_min2, bi_max2, bi_listL, bi_tupleL, bi_sum, W_ok, b_add, b_sub, b_mul, b_div, b_mod, b_pow, b_shl, b_shr, b_and, b_or, b_xor, c_eq, c_ne, c_lt, c_le, c_gt, c_ge, c_eqb, c_neb, endW_ret, endW_next, stepW_next, stepW_cnt, stepW_brk, stepW_ret, List.map_cons, List.map_nil, List.length_cons, List.length_nil, List.replicate, List.cons_append, List.nil_append, List.set_cons_zero, List.set_cons_succ, List.getElem?_cons_zero, List.getElem?_cons_succ, Option.some.injEq, D.int.injEq, D.bl.injEq, exEq, exists_eq_left', if_true, if_false, Bool.false_eq_true, decide_eq_true_eq, Option.isSome_some, true_and, reduceCtorEq, Int.toNat_natCast, Nat.reduceAdd, Nat.reduceSub, lst_new]
        have h1 := Int.emod_nonneg (cell * 48271 + i * 69621 + j * 16807 + 5) (show (2147483647 : Int) ≠ 0 by omega)
        have h2 := Int.emod_lt_of_pos (cell * 48271 + i * 69621 + j * 16807 + 5) (show (0 : Int) < 2147483647 by omega)
        rw [Int.fmod_eq_emod_of_nonneg _ (by omega : (0 : Int) ≤ 2147483647)]
        refine ⟨mulOk_r (by omega) (by omega), mulOk_r (by omega) (by omega), mulOk_r (by omega) (by omega), by omega, mulOk_l (by omega) (by omega), by omega, ?_⟩
        rw [app_new (by simp [lim]; omega), W_ok]
        exact ⟨row' ++ [_], _, _, rfl, by rw [il, il, List.map_append]; rfl, by simp; omega⟩
      · obtain ⟨row', y5, y6, rfl, rfl, hr'⟩ := h
        simp only [b_nil, b_cons, k_next, k_ret, k_brk, k_cnt, f_for, f_comp, ss_pass, ss_ret, ss_retN, ss_expr, ss_set, ss_tset, ss_sub, ss_sfld, ss_aug, ss_ite, ss_for, ss_whl, ss_brk, ss_cnt, e_slot, e_non, e_bl, e_int, e_str, e_bin, e_neg, e_inv, e_cmp, e_chain, e_and, e_or, e_not, e_ife, e_tup, e_lst, e_call, e_mk, e_bi, e_met, e_om, e_idx, e_slc, e_fld, e_comp, e_frz, t_and, t_or, t_not, t_val, q_none, q_some, es_nil, es_cons, o_none, o_some, i_val, i_rng, i_rng2, i_enum, i_zip, i_rev, a_nm, a_tp, sets_nil, sets_cons, wipe_nil, wipe_cons, tru_bl, tru_int, seq_lst, seq_tup, lst_lst, bi_len, bi_lenT, bi_abs, bi_int, bi_min2, bi_max2, bi_listL, bi_tupleL, bi_sum, W_ok, b_add, b_sub, b_mul, b_div, b_mod, b_pow, b_shl, b_shr, b_and, b_or, b_xor, c_eq, c_ne, c_lt, c_le, c_gt, c_ge, c_eqb, c_neb, endW_ret, endW_next, stepW_next, stepW_cnt, stepW_brk, stepW_ret, List.map_cons, List.map_nil, List.length_cons, List.length_nil, List.replicate, List.cons_append, List.nil_append, List.set_cons_zero, List.set_cons_succ, List.getElem?_cons_zero, List.getElem?_cons_succ, Option.some.injEq, D.int.injEq, D.bl.injEq, exEq, exists_eq_left', if_true, if_false, Bool.false_eq_true, decide_eq_true_eq, Option.isSome_some, true_and, reduceCtorEq, Int.toNat_natCast, Nat.reduceAdd, Nat.reduceSub]
        exact ⟨row', seed', _, _, _, _, rfl, rfl, by omega⟩
  · obtain ⟨row, seed, y3, y4, y5, y6, rfl, rfl, hr⟩ := h
    simp only [b_nil, b_cons, k_next, k_ret, k_brk, k_cnt, f_for, f_comp, ss_pass, ss_ret, ss_retN, ss_expr, ss_set, ss_tset, ss_sub, ss_sfld, ss_aug, ss_ite, ss_for, ss_whl, ss_brk, ss_cnt, e_slot, e_non, e_bl, e_int, e_str, e_bin, e_neg, e_inv, e_cmp, e_chain, e_and, e_or, e_not, e_ife, e_tup, e_lst, e_call, e_mk, e_bi, e_met, e_om, e_idx, e_slc, e_fld, e_comp, e_frz, t_and, t_or, t_not, t_val, q_none, q_some, es_nil, es_cons, o_none, o_some, i_val, i_rng, i_rng2, i_enum, i_zip, i_rev, a_nm, a_tp, sets_nil, sets_cons, wipe_nil, wipe_cons, tru_bl, tru_int, seq_lst, seq_tup, lst_lst, bi_len, bi_lenT, bi_abs, bi_int, bi_min2, bi_max2, bi_listL, bi_tupleL, bi_sum, W_ok, b_add, b_sub, b_mul, b_div, b_mod, b_pow, b_shl, b_shr, b_and, b_or, b_xor, c_eq, c_ne, c_lt, c_le, c_gt, c_ge, c_eqb, c_neb, endW_ret, endW_next, stepW_next, stepW_cnt, stepW_brk, stepW_ret, List.map_cons, List.map_nil, List.length_cons, List.length_nil, List.replicate, List.cons_append, List.nil_append, List.set_cons_zero, List.set_cons_succ, List.getElem?_cons_zero, List.getElem?_cons_succ, Option.some.injEq, D.int.injEq, D.bl.injEq, exEq, exists_eq_left', if_true, if_false, Bool.false_eq_true, decide_eq_true_eq, Option.isSome_some, true_and, reduceCtorEq, Int.toNat_natCast, Nat.reduceAdd, Nat.reduceSub]
    refine ⟨by decide, ?_⟩
    have e : shutK S (.ref (S ++ [O.lst (il row)]).length) (S ++ [O.lst (il row)] ++ [O.lst [.int 0, .ref S.length, .int seed]]) = .ok (.ref S.length) (S ++ [tapeO 0 row seed]) := by
      show (if (S ++ [O.lst (il row)]).length < S.length then _ else _) = _
      rw [if_neg (by simp)]
      have g : (S ++ [O.lst (il row)] ++ [O.lst [.int 0, .ref S.length, .int seed]])[(S ++ [O.lst (il row)]).length]? = some (O.lst [.int 0, .ref S.length, .int seed]) := by simp
      rw [g, Option.bind_some]
      have r : rd (S ++ [O.lst (il row)] ++ [O.lst [.int 0, .ref S.length, .int seed]]) S.length (S ++ [O.lst (il row)]).length 6 S.length = some (.lst (il row)) :=
        rd_new (by simp) (Nat.le_refl _) (by simp) (pures_il row)
      have m : O.mapR (rd (S ++ [O.lst (il row)] ++ [O.lst [.int 0, .ref S.length, .int seed]]) S.length (S ++ [O.lst (il row)]).length 6) (O.lst [.int 0, .ref S.length, .int seed]) = some (tapeO 0 row seed) := by
        simp only [O.mapR, D.mapRs, D.mapR, r, tapeO, Option.map_some, Option.bind_some]
        rfl
      rw [m, ((Gr.app S _).push).conv]
      simp
    rw [e, W_ok]
    exact ⟨_, rfl, rfl, 0, row, seed, rfl, Nat.le_refl _⟩
end Py
namespace Py
open PySem
/-! ### type looks -/
section
variable {S : Sto} {Q : D → Sto → Prop}
theorem is_ty {t T : String} {d : D} (h : tyD S d = some t) (a : t = "NoneType" ∨ t = "bool" ∨ t = "int" ∨ t = "str" ∨ t = "tuple" ∨ t = "list") (b : T = "bool" ∨ T = "int" ∨ T = "str" ∨ T = "tuple" ∨ T = "list" ∨ T = "dict") : W (biD (.isinst T) [d] S) Q = Q (.bl (decide (t = T) || (decide (t = "bool") && decide (T = "int")))) S := by
  rw [biD, W_bind, W_opt, h, Option.bind_some]
  unfold isTyD
  rw [if_pos ⟨a, b⟩]
  simp only [Option.some.injEq, exEq, W_ok]
theorem ty_non_bool : W (biD (.isinst "bool") [.non] S) Q = Q (.bl false) S := by rw [is_ty (t := "NoneType") rfl (by simp) (by simp)]; rfl
theorem ty_non_int : W (biD (.isinst "int") [.non] S) Q = Q (.bl false) S := by rw [is_ty (t := "NoneType") rfl (by simp) (by simp)]; rfl
theorem ty_non_str : W (biD (.isinst "str") [.non] S) Q = Q (.bl false) S := by rw [is_ty (t := "NoneType") rfl (by simp) (by simp)]; rfl
theorem ty_non_tuple : W (biD (.isinst "tuple") [.non] S) Q = Q (.bl false) S := by rw [is_ty (t := "NoneType") rfl (by simp) (by simp)]; rfl
theorem ty_non_list : W (biD (.isinst "list") [.non] S) Q = Q (.bl false) S := by rw [is_ty (t := "NoneType") rfl (by simp) (by simp)]; rfl
theorem ty_bl_bool {b : Bool} : W (biD (.isinst "bool") [.bl b] S) Q = Q (.bl true) S := by rw [is_ty (t := "bool") rfl (by simp) (by simp)]; rfl
theorem ty_bl_int {b : Bool} : W (biD (.isinst "int") [.bl b] S) Q = Q (.bl true) S := by rw [is_ty (t := "bool") rfl (by simp) (by simp)]; rfl
theorem ty_int_bool {i : Int} : W (biD (.isinst "bool") [.int i] S) Q = Q (.bl false) S := by rw [is_ty (t := "int") rfl (by simp) (by simp)]; rfl
theorem ty_int_int {i : Int} : W (biD (.isinst "int") [.int i] S) Q = Q (.bl true) S := by rw [is_ty (t := "int") rfl (by simp) (by simp)]; rfl
theorem ty_int_str {i : Int} : W (biD (.isinst "str") [.int i] S) Q = Q (.bl false) S := by rw [is_ty (t := "int") rfl (by simp) (by simp)]; rfl
theorem ty_int_tuple {i : Int} : W (biD (.isinst "tuple") [.int i] S) Q = Q (.bl false) S := by rw [is_ty (t := "int") rfl (by simp) (by simp)]; rfl
theorem ty_int_list {i : Int} : W (biD (.isinst "list") [.int i] S) Q = Q (.bl false) S := by rw [is_ty (t := "int") rfl (by simp) (by simp)]; rfl
theorem ty_str_bool {x : Str} : W (biD (.isinst "bool") [.str x] S) Q = Q (.bl false) S := by rw [is_ty (t := "str") rfl (by simp) (by simp)]; rfl
theorem ty_str_int {x : Str} : W (biD (.isinst "int") [.str x] S) Q = Q (.bl false) S := by rw [is_ty (t := "str") rfl (by simp) (by simp)]; rfl
theorem ty_str_str {x : Str} : W (biD (.isinst "str") [.str x] S) Q = Q (.bl true) S := by rw [is_ty (t := "str") rfl (by simp) (by simp)]; rfl
theorem ty_tup_bool {xs : List D} : W (biD (.isinst "bool") [.tup xs] S) Q = Q (.bl false) S := by rw [is_ty (t := "tuple") rfl (by simp) (by simp)]; rfl
theorem ty_tup_int {xs : List D} : W (biD (.isinst "int") [.tup xs] S) Q = Q (.bl false) S := by rw [is_ty (t := "tuple") rfl (by simp) (by simp)]; rfl
theorem ty_tup_str {xs : List D} : W (biD (.isinst "str") [.tup xs] S) Q = Q (.bl false) S := by rw [is_ty (t := "tuple") rfl (by simp) (by simp)]; rfl
theorem ty_tup_tuple {xs : List D} : W (biD (.isinst "tuple") [.tup xs] S) Q = Q (.bl true) S := by rw [is_ty (t := "tuple") rfl (by simp) (by simp)]; rfl
theorem ty_tup_list {xs : List D} : W (biD (.isinst "list") [.tup xs] S) Q = Q (.bl false) S := by rw [is_ty (t := "tuple") rfl (by simp) (by simp)]; rfl
theorem ty_lst_bool {xs : List D} : W (biD (.isinst "bool") [.lst xs] S) Q = Q (.bl false) S := by rw [is_ty (t := "list") rfl (by simp) (by simp)]; rfl
theorem ty_lst_int {xs : List D} : W (biD (.isinst "int") [.lst xs] S) Q = Q (.bl false) S := by rw [is_ty (t := "list") rfl (by simp) (by simp)]; rfl
theorem ty_lst_str {xs : List D} : W (biD (.isinst "str") [.lst xs] S) Q = Q (.bl false) S := by rw [is_ty (t := "list") rfl (by simp) (by simp)]; rfl
theorem ty_lst_tuple {xs : List D} : W (biD (.isinst "tuple") [.lst xs] S) Q = Q (.bl false) S := by rw [is_ty (t := "list") rfl (by simp) (by simp)]; rfl
theorem ty_lst_list {xs : List D} : W (biD (.isinst "list") [.lst xs] S) Q = Q (.bl true) S := by rw [is_ty (t := "list") rfl (by simp) (by simp)]; rfl
theorem c_is {x : D} : cmpD .Is x .non S = .ok (.bl (decide (x = .non))) S := by cases S <;> rfl
theorem c_isb {a b : Bool} : cmpD .Is (.bl a) (.bl b) S = .ok (.bl (decide (a = b))) S := by cases S <;> rfl
theorem c_isnb {a b : Bool} : cmpD .IsNot (.bl a) (.bl b) S = .ok (.bl (!decide (a = b))) S := by cases S <;> rfl
theorem c_isn {x : D} : cmpD .IsNot x .non S = .ok (.bl (!decide (x = .non))) S := by cases S <;> rfl
end
mutual
/-- == holds of fit data and itself -/
theorem eqv_refl : ∀ d : D, D.dep d ≠ none → D.eqv d d = true
  | .non, _ => rfl
  | .bl b, _ => by cases b <;> rfl
  | .int i, _ => by simp [D.eqv]
  | .str x, _ => by simp [D.eqv]
  | .tup xs, h => by
    rw [D.eqv]; exact eqvs_refl xs (by intro e; apply h; rw [D.dep, e]; rfl)
  | .lst xs, h => by
    rw [D.eqv]; exact eqvs_refl xs (by intro e; apply h; rw [D.dep, e]; rfl)
  | .obj _ _, h => by exact absurd rfl h
  | .ref _, h => by exact absurd rfl h
theorem eqvs_refl : ∀ ds : List D, D.deps ds ≠ none → D.eqvs ds ds = true
  | [], _ => rfl
  | x :: xs, h => by
    rw [D.deps] at h
    cases hx : D.dep x with
    | none => rw [hx] at h; exact absurd rfl h
    | some a =>
      rw [hx] at h
      rw [D.eqvs, eqv_refl x (by rw [hx]; simp), eqvs_refl xs (by intro e; rw [e] at h; exact h rfl)]; rfl
end
mutual
theorem dep_pure : ∀ d : D, D.dep d ≠ none → d.pure = true
  | .non, _ => rfl
  | .bl b, _ => rfl
  | .int i, _ => rfl
  | .str x, _ => rfl
  | .tup xs, h => by
    rw [D.pure]; exact deps_pure xs (by intro e; apply h; rw [D.dep, e]; rfl)
  | .lst xs, h => by
    rw [D.pure]; exact deps_pure xs (by intro e; apply h; rw [D.dep, e]; rfl)
  | .obj _ _, h => by exact absurd rfl h
  | .ref _, h => by exact absurd rfl h
theorem deps_pure : ∀ ds : List D, D.deps ds ≠ none → D.pures ds = true
  | [], _ => rfl
  | x :: xs, h => by
    rw [D.deps] at h
    cases hx : D.dep x with
    | none => rw [hx] at h; exact absurd rfl h
    | some a =>
      rw [hx] at h
      rw [D.pures, dep_pure x (by rw [hx]; simp), deps_pure xs (by intro e; rw [e] at h; exact h rfl)]; rfl
end
theorem rsv_pure {S : Sto} {d : D} (h : d.pure = true) : rsv S d = some d := D.mapR_pure _ d h
theorem eqB_self {S : Sto} {d : D} {n : Nat} (h : D.dep d = some n) (hn : n ≤ 60) : eqB S d d = some true := by
  have hp : d.pure = true := dep_pure d (by rw [h]; simp)
  have hs : D.shp d = true := by simp [D.shp, h, hn]
  unfold eqB
  split
  · simp
  · rw [rsv_pure hp, Option.bind_some, Option.bind_some, hs, eqv_refl d (by rw [h]; simp)]; rfl
theorem dep_int {l : List Int} : ∃ n, D.deps (il l) = some n ∧ n = 0 := by
  induction l with
  | nil => exact ⟨0, rfl, rfl⟩
  | cons x l ih =>
    obtain ⟨n, h, rfl⟩ := ih
    exact ⟨0, by rw [il, List.map_cons, D.deps]; show ((D.deps (il l)).map _) = _; rw [h]; rfl, rfl⟩
theorem dep_il {l : List Int} : D.deps (il l) = some 0 := by
  obtain ⟨n, h, rfl⟩ := dep_int (l := l)
  exact h
/-! ### _law_same -/
def cSame (f : Nat) : CF := ⟨3, 2, false, (.cons (.ite (.val (.cmp .Is (.slot 1) .non))
    (.cons (.ret (.cmp .Is (.slot 0) .non))
    .nil)
    .nil)
    (.cons (.ite (.val (.bi (.isinst "bool") (.cons (.slot 1) .nil)))
    (.cons (.ret (.and (.bi (.isinst "bool") (.cons (.slot 0) .nil)) (.cmp .Eq (.slot 0) (.slot 1))))
    .nil)
    .nil)
    (.cons (.ite (.val (.bi (.isinst "int") (.cons (.slot 1) .nil)))
    (.cons (.ret (.and (.bi (.isinst "int") (.cons (.slot 0) .nil)) (.and (.not (.bi (.isinst "bool") (.cons (.slot 0) .nil))) (.cmp .Eq (.slot 0) (.slot 1)))))
    .nil)
    .nil)
    (.cons (.ite (.val (.bi (.isinst "str") (.cons (.slot 1) .nil)))
    (.cons (.ret (.and (.bi (.isinst "str") (.cons (.slot 0) .nil)) (.cmp .Eq (.slot 0) (.slot 1))))
    .nil)
    .nil)
    (.cons (.ite (.or (.and (.val (.bi (.isinst "tuple") (.cons (.slot 1) .nil))) (.not (.val (.bi (.isinst "tuple") (.cons (.slot 0) .nil))))) (.and (.val (.bi (.isinst "list") (.cons (.slot 1) .nil))) (.not (.val (.bi (.isinst "list") (.cons (.slot 0) .nil))))))
    (.cons (.ret (.bl false))
    .nil)
    .nil)
    (.cons (.ite (.val (.cmp .NotEq (.bi .len (.cons (.slot 0) .nil)) (.bi .len (.cons (.slot 1) .nil))))
    (.cons (.ret (.bl false))
    .nil)
    .nil)
    (.cons (.for_ (.nm 2) (.rng (.bi .len (.cons (.slot 1) .nil)))
    (.cons (.ite (.not (.val (.call f (.cons (.idx (.slot 0) (.slot 2)) (.cons (.idx (.slot 1) (.slot 2)) .nil)))))
    (.cons (.ret (.bl false))
    .nil)
    .nil)
    .nil))
    (.cons (.ret (.bl true))
    .nil))))))))⟩
mutual
/-- lists and tuples of a length that range takes -/
def D.wide : D → Bool
  | .tup xs => decide (xs.length < 2 ^ 62) && D.wides xs
  | .lst xs => decide (xs.length < 2 ^ 62) && D.wides xs
  | _ => true
def D.wides : List D → Bool
  | [] => true
  | x :: xs => D.wide x && D.wides xs
end
theorem wides_get {x : D} : ∀ {xs : List D}, D.wides xs = true → x ∈ xs → x.wide = true
  | y :: xs, h, hm => by
    rw [D.wides, Bool.and_eq_true] at h
    cases hm with
    | head => exact h.1
    | tail _ hm => exact wides_get h.2 hm
theorem deps_get {x : D} {n : Nat} : ∀ {xs : List D} {m : Nat}, D.deps xs = some m → m ≤ n → x ∈ xs → ∃ a, x.dep = some a ∧ a ≤ n
  | y :: xs, m, h, hn, hm => by
    rw [D.deps] at h
    cases hx : D.dep y with
    | none => rw [hx] at h; cases h
    | some a =>
      rw [hx] at h
      cases hy : D.deps xs with
      | none => rw [hy] at h; cases h
      | some b =>
        rw [hy] at h
        cases h
        cases hm with
        | head => exact ⟨a, hx, by omega⟩
        | tail _ hm => exact deps_get hy (by omega) hm
theorem same_step {T : Tab} {Γ : Gm} {f : Nat} {d : D} {xs : List D} {S : Sto} (hd : seqOf S d = some xs) (hz : ∀ z, d ≠ .str z) (hl : xs.length < 2 ^ 62) (ih : ∀ x ∈ xs, ∀ S, Γ f [x, x] S = .ok (.bl true) S) {y : Option D} {Q : Fl → Sto → Prop} (hq : Q (.ret (.bl true)) S) :
    W (forL (.rg 0 ((xs.length : Nat) : Int).toNat) (forF T Γ (.nm 2) (.cons (.ite (.not (.val (.call f (.cons (.idx (.slot 0) (.slot 2)) (.cons (.idx (.slot 1) (.slot 2)) .nil))))) (.cons (.ret (.bl false)) .nil) .nil) .nil)) (fuelOf S (.rg 0 ((xs.length : Nat) : Int).toNat)) 0 [some d, some d, y] S)
      (kB T Γ (.cons (.ret (.bl true)) .nil) Q) := by
  rw [show ((xs.length : Nat) : Int).toNat = xs.length by omega]
  refine W_forR0 (fun i σ S' => ∃ y, σ = [some d, some d, y] ∧ S' = S) ⟨y, rfl, rfl⟩ (fun i σ S' hi h => ?_) (fun σ S' h => ?_)
  · obtain ⟨y, rfl, rfl⟩ := h
    have hx : idxD d (.int i) S' = .ok xs[i] S' := idx_seq hd (by simp [hi]) hz
    simp only [b_nil, b_cons, k_next, k_ret, k_brk, k_cnt, f_for, f_comp, ss_pass, ss_ret, ss_retN, ss_expr, ss_set, ss_tset, ss_sub, ss_sfld, ss_aug, ss_ite, ss_for, ss_whl, ss_brk, ss_cnt, e_slot, e_non, e_bl, e_int, e_str, e_bin, e_neg, e_inv, e_cmp, e_chain, e_and, e_or, e_not, e_ife, e_tup, e_lst, e_call, e_mk, e_bi, e_met, e_om, e_idx, e_slc, e_fld, e_comp, e_frz, t_and, t_or, t_not, t_val, q_none, q_some, es_nil, es_cons, o_none, o_some, i_val, i_rng, i_rng2, i_enum, i_zip, i_rev, a_nm, a_tp, sets_nil, sets_cons, wipe_nil, wipe_cons, tru_bl, tru_int, seq_lst, seq_tup, lst_lst, bi_len, bi_lenT, bi_abs, bi_int, bi_min2, bi_max2, bi_listL, bi_tupleL, bi_sum, W_ok, b_add, b_sub, b_mul, b_div, b_mod, b_pow, b_shl, b_shr, b_and, b_or, b_xor, c_eq, c_ne, c_lt, c_le, c_gt, c_ge, c_eqb, c_neb, endW_ret, endW_next, stepW_next, stepW_cnt, stepW_brk, stepW_ret, List.map_cons, List.map_nil, List.length_cons, List.length_nil, List.replicate, List.cons_append, List.nil_append, List.set_cons_zero, List.set_cons_succ, List.getElem?_cons_zero, List.getElem?_cons_succ, Option.some.injEq, D.int.injEq, D.bl.injEq, exEq, exists_eq_left', if_true, if_false, Bool.false_eq_true, decide_eq_true_eq, Option.isSome_some, true_and, reduceCtorEq, Int.toNat_natCast, Nat.reduceAdd, Nat.reduceSub, hx, ih _ (List.getElem_mem hi), Bool.not_true]
    exact ⟨_, rfl, by trivial⟩
  · obtain ⟨y, rfl, rfl⟩ := h
    simp only [b_nil, b_cons, k_next, k_ret, k_brk, k_cnt, f_for, f_comp, ss_pass, ss_ret, ss_retN, ss_expr, ss_set, ss_tset, ss_sub, ss_sfld, ss_aug, ss_ite, ss_for, ss_whl, ss_brk, ss_cnt, e_slot, e_non, e_bl, e_int, e_str, e_bin, e_neg, e_inv, e_cmp, e_chain, e_and, e_or, e_not, e_ife, e_tup, e_lst, e_call, e_mk, e_bi, e_met, e_om, e_idx, e_slc, e_fld, e_comp, e_frz, t_and, t_or, t_not, t_val, q_none, q_some, es_nil, es_cons, o_none, o_some, i_val, i_rng, i_rng2, i_enum, i_zip, i_rev, a_nm, a_tp, sets_nil, sets_cons, wipe_nil, wipe_cons, tru_bl, tru_int, seq_lst, seq_tup, lst_lst, bi_len, bi_lenT, bi_abs, bi_int, bi_min2, bi_max2, bi_listL, bi_tupleL, bi_sum, W_ok, b_add, b_sub, b_mul, b_div, b_mod, b_pow, b_shl, b_shr, b_and, b_or, b_xor, c_eq, c_ne, c_lt, c_le, c_gt, c_ge, c_eqb, c_neb, endW_ret, endW_next, stepW_next, stepW_cnt, stepW_brk, stepW_ret, List.map_cons, List.map_nil, List.length_cons, List.length_nil, List.replicate, List.cons_append, List.nil_append, List.set_cons_zero, List.set_cons_succ, List.getElem?_cons_zero, List.getElem?_cons_succ, Option.some.injEq, D.int.injEq, D.bl.injEq, exEq, exists_eq_left', if_true, if_false, Bool.false_eq_true, decide_eq_true_eq, Option.isSome_some, true_and, reduceCtorEq, Int.toNat_natCast, Nat.reduceAdd, Nat.reduceSub]
    exact hq
theorem same_ok {T : Tab} {P : Nat → Option CF} {f : Nat} (hP : P f = some (cSame f)) : ∀ (n : Nat) (d : D), (∃ a, d.dep = some a ∧ a ≤ n) → n ≤ 60 → d.wide = true → ∀ k S, sem T P (k + n + 1) f [d, d] S = .ok (.bl true) S := by
  intro n
  induction n with
  | zero =>
    intro d hd hn hw k S
    rw [← W_iff]
    refine W_run hP rfl rfl ?_
    have fin : W (shutK S (.bl true) S) fun b S' => b = .bl true ∧ S' = S := by
      rw [shutK_pure (Gr.refl S) rfl, W_ok, List.take_of_length_le (Nat.le_refl _)]; exact ⟨rfl, rfl⟩
    cases d with
    | non => simp only [cSame, b_nil, b_cons, k_next, k_ret, k_brk, k_cnt, f_for, f_comp, ss_pass, ss_ret, ss_retN, ss_expr, ss_set, ss_tset, ss_sub, ss_sfld, ss_aug, ss_ite, ss_for, ss_whl, ss_brk, ss_cnt, e_slot, e_non, e_bl, e_int, e_str, e_bin, e_neg, e_inv, e_cmp, e_chain, e_and, e_or, e_not, e_ife, e_tup, e_lst, e_call, e_mk, e_bi, e_met, e_om, e_idx, e_slc, e_fld, e_comp, e_frz, t_and, t_or, t_not, t_val, q_none, q_some, es_nil, es_cons, o_none, o_some, i_val, i_rng, i_rng2, i_enum, i_zip, i_rev, a_nm, a_tp, sets_nil, sets_cons, wipe_nil, wipe_cons, tru_bl, tru_int, seq_lst, seq_tup, lst_lst, bi_len, bi_lenT, bi_abs, bi_int, bi_min2, bi_max2, bi_listL, bi_tupleL, bi_sum, W_ok, b_add, b_sub, b_mul, b_div, b_mod, b_pow, b_shl, b_shr, b_and, b_or, b_xor, c_eq, c_ne, c_lt, c_le, c_gt, c_ge, c_eqb, c_neb, endW_ret, endW_next, stepW_next, stepW_cnt, stepW_brk, stepW_ret, List.map_cons, List.map_nil, List.length_cons, List.length_nil, List.replicate, List.cons_append, List.nil_append, List.set_cons_zero, List.set_cons_succ, List.getElem?_cons_zero, List.getElem?_cons_succ, Option.some.injEq, D.int.injEq, D.bl.injEq, exEq, exists_eq_left', if_true, if_false, Bool.false_eq_true, decide_eq_true_eq, Option.isSome_some, true_and, reduceCtorEq, Int.toNat_natCast, Nat.reduceAdd, Nat.reduceSub, c_is, decide_true]; exact fin
    | bl b => simp only [cSame, b_nil, b_cons, k_next, k_ret, k_brk, k_cnt, f_for, f_comp, ss_pass, ss_ret, ss_retN, ss_expr, ss_set, ss_tset, ss_sub, ss_sfld, ss_aug, ss_ite, ss_for, ss_whl, ss_brk, ss_cnt, e_slot, e_non, e_bl, e_int, e_str, e_bin, e_neg, e_inv, e_cmp, e_chain, e_and, e_or, e_not, e_ife, e_tup, e_lst, e_call, e_mk, e_bi, e_met, e_om, e_idx, e_slc, e_fld, e_comp, e_frz, t_and, t_or, t_not, t_val, q_none, q_some, es_nil, es_cons, o_none, o_some, i_val, i_rng, i_rng2, i_enum, i_zip, i_rev, a_nm, a_tp, sets_nil, sets_cons, wipe_nil, wipe_cons, tru_bl, tru_int, seq_lst, seq_tup, lst_lst, bi_len, bi_lenT, bi_abs, bi_int, bi_min2, bi_max2, bi_listL, bi_tupleL, bi_sum, W_ok, b_add, b_sub, b_mul, b_div, b_mod, b_pow, b_shl, b_shr, b_and, b_or, b_xor, c_eq, c_ne, c_lt, c_le, c_gt, c_ge, c_eqb, c_neb, endW_ret, endW_next, stepW_next, stepW_cnt, stepW_brk, stepW_ret, List.map_cons, List.map_nil, List.length_cons, List.length_nil, List.replicate, List.cons_append, List.nil_append, List.set_cons_zero, List.set_cons_succ, List.getElem?_cons_zero, List.getElem?_cons_succ, Option.some.injEq, D.int.injEq, D.bl.injEq, exEq, exists_eq_left', if_true, if_false, Bool.false_eq_true, decide_eq_true_eq, Option.isSome_some, true_and, reduceCtorEq, Int.toNat_natCast, Nat.reduceAdd, Nat.reduceSub, c_is, ty_bl_bool, reduceCtorEq, decide_false, beq_self_eq_true]; exact fin
    | int i => simp only [cSame, b_nil, b_cons, k_next, k_ret, k_brk, k_cnt, f_for, f_comp, ss_pass, ss_ret, ss_retN, ss_expr, ss_set, ss_tset, ss_sub, ss_sfld, ss_aug, ss_ite, ss_for, ss_whl, ss_brk, ss_cnt, e_slot, e_non, e_bl, e_int, e_str, e_bin, e_neg, e_inv, e_cmp, e_chain, e_and, e_or, e_not, e_ife, e_tup, e_lst, e_call, e_mk, e_bi, e_met, e_om, e_idx, e_slc, e_fld, e_comp, e_frz, t_and, t_or, t_not, t_val, q_none, q_some, es_nil, es_cons, o_none, o_some, i_val, i_rng, i_rng2, i_enum, i_zip, i_rev, a_nm, a_tp, sets_nil, sets_cons, wipe_nil, wipe_cons, tru_bl, tru_int, seq_lst, seq_tup, lst_lst, bi_len, bi_lenT, bi_abs, bi_int, bi_min2, bi_max2, bi_listL, bi_tupleL, bi_sum, W_ok, b_add, b_sub, b_mul, b_div, b_mod, b_pow, b_shl, b_shr, b_and, b_or, b_xor, c_eq, c_ne, c_lt, c_le, c_gt, c_ge, c_eqb, c_neb, endW_ret, endW_next, stepW_next, stepW_cnt, stepW_brk, stepW_ret, List.map_cons, List.map_nil, List.length_cons, List.length_nil, List.replicate, List.cons_append, List.nil_append, List.set_cons_zero, List.set_cons_succ, List.getElem?_cons_zero, List.getElem?_cons_succ, Option.some.injEq, D.int.injEq, D.bl.injEq, exEq, exists_eq_left', if_true, if_false, Bool.false_eq_true, decide_eq_true_eq, Option.isSome_some, true_and, reduceCtorEq, Int.toNat_natCast, Nat.reduceAdd, Nat.reduceSub, c_is, ty_int_bool, ty_int_int, reduceCtorEq, decide_false, decide_true, Bool.not_false]; exact fin
    | str x =>
      obtain ⟨a, ha, hb⟩ := hd
      simp only [cSame, b_nil, b_cons, k_next, k_ret, k_brk, k_cnt, f_for, f_comp, ss_pass, ss_ret, ss_retN, ss_expr, ss_set, ss_tset, ss_sub, ss_sfld, ss_aug, ss_ite, ss_for, ss_whl, ss_brk, ss_cnt, e_slot, e_non, e_bl, e_int, e_str, e_bin, e_neg, e_inv, e_cmp, e_chain, e_and, e_or, e_not, e_ife, e_tup, e_lst, e_call, e_mk, e_bi, e_met, e_om, e_idx, e_slc, e_fld, e_comp, e_frz, t_and, t_or, t_not, t_val, q_none, q_some, es_nil, es_cons, o_none, o_some, i_val, i_rng, i_rng2, i_enum, i_zip, i_rev, a_nm, a_tp, sets_nil, sets_cons, wipe_nil, wipe_cons, tru_bl, tru_int, seq_lst, seq_tup, lst_lst, bi_len, bi_lenT, bi_abs, bi_int, bi_min2, bi_max2, bi_listL, bi_tupleL, bi_sum, W_ok, b_add, b_sub, b_mul, b_div, b_mod, b_pow, b_shl, b_shr, b_and, b_or, b_xor, c_eq, c_ne, c_lt, c_le, c_gt, c_ge, c_eqb, c_neb, endW_ret, endW_next, stepW_next, stepW_cnt, stepW_brk, stepW_ret, List.map_cons, List.map_nil, List.length_cons, List.length_nil, List.replicate, List.cons_append, List.nil_append, List.set_cons_zero, List.set_cons_succ, List.getElem?_cons_zero, List.getElem?_cons_succ, Option.some.injEq, D.int.injEq, D.bl.injEq, exEq, exists_eq_left', if_true, if_false, Bool.false_eq_true, decide_eq_true_eq, Option.isSome_some, true_and, reduceCtorEq, Int.toNat_natCast, Nat.reduceAdd, Nat.reduceSub, c_is, ty_str_bool, ty_str_int, ty_str_str, reduceCtorEq, decide_false, cmpD, W_bind, W_opt, eqB_self ha (by omega)]; exact fin
    | tup xs =>
      obtain ⟨a, ha, hb⟩ := hd
      rw [D.dep] at ha
      cases h : D.deps xs with
      | none => rw [h] at ha; cases ha
      | some m => rw [h] at ha; simp at ha; omega
    | lst xs =>
      obtain ⟨a, ha, hb⟩ := hd
      rw [D.dep] at ha
      cases h : D.deps xs with
      | none => rw [h] at ha; cases ha
      | some m => rw [h] at ha; simp at ha; omega
    | obj c vs => obtain ⟨a, ha, _⟩ := hd; cases ha
    | ref m => obtain ⟨a, ha, _⟩ := hd; cases ha
  | succ n ih =>
    intro d hd hn hw k S
    have fin : W (shutK S (.bl true) S) fun b S' => b = .bl true ∧ S' = S := by
      rw [shutK_pure (Gr.refl S) rfl, W_ok, List.take_of_length_le (Nat.le_refl _)]; exact ⟨rfl, rfl⟩
    rw [← W_iff]
    refine W_run hP rfl rfl ?_
    have lem : ∀ (xs : List D) (m : Nat), D.deps xs = some m → m ≤ n → D.wides xs = true → ∀ x ∈ xs, ∀ S, sem T P (k + (n + 1)) f [x, x] S = .ok (.bl true) S :=
      fun xs m h1 h2 h3 x hx S => ih x (deps_get h1 h2 hx) (by omega) (wides_get h3 hx) k S
    cases d with
    | non => simp only [cSame, b_nil, b_cons, k_next, k_ret, k_brk, k_cnt, f_for, f_comp, ss_pass, ss_ret, ss_retN, ss_expr, ss_set, ss_tset, ss_sub, ss_sfld, ss_aug, ss_ite, ss_for, ss_whl, ss_brk, ss_cnt, e_slot, e_non, e_bl, e_int, e_str, e_bin, e_neg, e_inv, e_cmp, e_chain, e_and, e_or, e_not, e_ife, e_tup, e_lst, e_call, e_mk, e_bi, e_met, e_om, e_idx, e_slc, e_fld, e_comp, e_frz, t_and, t_or, t_not, t_val, q_none, q_some, es_nil, es_cons, o_none, o_some, i_val, i_rng, i_rng2, i_enum, i_zip, i_rev, a_nm, a_tp, sets_nil, sets_cons, wipe_nil, wipe_cons, tru_bl, tru_int, seq_lst, seq_tup, lst_lst, bi_len, bi_lenT, bi_abs, bi_int, bi_min2, bi_max2, bi_listL, bi_tupleL, bi_sum, W_ok, b_add, b_sub, b_mul, b_div, b_mod, b_pow, b_shl, b_shr, b_and, b_or, b_xor, c_eq, c_ne, c_lt, c_le, c_gt, c_ge, c_eqb, c_neb, endW_ret, endW_next, stepW_next, stepW_cnt, stepW_brk, stepW_ret, List.map_cons, List.map_nil, List.length_cons, List.length_nil, List.replicate, List.cons_append, List.nil_append, List.set_cons_zero, List.set_cons_succ, List.getElem?_cons_zero, List.getElem?_cons_succ, Option.some.injEq, D.int.injEq, D.bl.injEq, exEq, exists_eq_left', if_true, if_false, Bool.false_eq_true, decide_eq_true_eq, Option.isSome_some, true_and, reduceCtorEq, Int.toNat_natCast, Nat.reduceAdd, Nat.reduceSub, c_is, decide_true]; exact fin
    | bl b => simp only [cSame, b_nil, b_cons, k_next, k_ret, k_brk, k_cnt, f_for, f_comp, ss_pass, ss_ret, ss_retN, ss_expr, ss_set, ss_tset, ss_sub, ss_sfld, ss_aug, ss_ite, ss_for, ss_whl, ss_brk, ss_cnt, e_slot, e_non, e_bl, e_int, e_str, e_bin, e_neg, e_inv, e_cmp, e_chain, e_and, e_or, e_not, e_ife, e_tup, e_lst, e_call, e_mk, e_bi, e_met, e_om, e_idx, e_slc, e_fld, e_comp, e_frz, t_and, t_or, t_not, t_val, q_none, q_some, es_nil, es_cons, o_none, o_some, i_val, i_rng, i_rng2, i_enum, i_zip, i_rev, a_nm, a_tp, sets_nil, sets_cons, wipe_nil, wipe_cons, tru_bl, tru_int, seq_lst, seq_tup, lst_lst, bi_len, bi_lenT, bi_abs, bi_int, bi_min2, bi_max2, bi_listL, bi_tupleL, bi_sum, W_ok, b_add, b_sub, b_mul, b_div, b_mod, b_pow, b_shl, b_shr, b_and, b_or, b_xor, c_eq, c_ne, c_lt, c_le, c_gt, c_ge, c_eqb, c_neb, endW_ret, endW_next, stepW_next, stepW_cnt, stepW_brk, stepW_ret, List.map_cons, List.map_nil, List.length_cons, List.length_nil, List.replicate, List.cons_append, List.nil_append, List.set_cons_zero, List.set_cons_succ, List.getElem?_cons_zero, List.getElem?_cons_succ, Option.some.injEq, D.int.injEq, D.bl.injEq, exEq, exists_eq_left', if_true, if_false, Bool.false_eq_true, decide_eq_true_eq, Option.isSome_some, true_and, reduceCtorEq, Int.toNat_natCast, Nat.reduceAdd, Nat.reduceSub, c_is, ty_bl_bool, reduceCtorEq, decide_false, beq_self_eq_true]; exact fin
    | int i => simp only [cSame, b_nil, b_cons, k_next, k_ret, k_brk, k_cnt, f_for, f_comp, ss_pass, ss_ret, ss_retN, ss_expr, ss_set, ss_tset, ss_sub, ss_sfld, ss_aug, ss_ite, ss_for, ss_whl, ss_brk, ss_cnt, e_slot, e_non, e_bl, e_int, e_str, e_bin, e_neg, e_inv, e_cmp, e_chain, e_and, e_or, e_not, e_ife, e_tup, e_lst, e_call, e_mk, e_bi, e_met, e_om, e_idx, e_slc, e_fld, e_comp, e_frz, t_and, t_or, t_not, t_val, q_none, q_some, es_nil, es_cons, o_none, o_some, i_val, i_rng, i_rng2, i_enum, i_zip, i_rev, a_nm, a_tp, sets_nil, sets_cons, wipe_nil, wipe_cons, tru_bl, tru_int, seq_lst, seq_tup, lst_lst, bi_len, bi_lenT, bi_abs, bi_int, bi_min2, bi_max2, bi_listL, bi_tupleL, bi_sum, W_ok, b_add, b_sub, b_mul, b_div, b_mod, b_pow, b_shl, b_shr, b_and, b_or, b_xor, c_eq, c_ne, c_lt, c_le, c_gt, c_ge, c_eqb, c_neb, endW_ret, endW_next, stepW_next, stepW_cnt, stepW_brk, stepW_ret, List.map_cons, List.map_nil, List.length_cons, List.length_nil, List.replicate, List.cons_append, List.nil_append, List.set_cons_zero, List.set_cons_succ, List.getElem?_cons_zero, List.getElem?_cons_succ, Option.some.injEq, D.int.injEq, D.bl.injEq, exEq, exists_eq_left', if_true, if_false, Bool.false_eq_true, decide_eq_true_eq, Option.isSome_some, true_and, reduceCtorEq, Int.toNat_natCast, Nat.reduceAdd, Nat.reduceSub, c_is, ty_int_bool, ty_int_int, reduceCtorEq, decide_false, decide_true, Bool.not_false]; exact fin
    | str x =>
      obtain ⟨a, ha, hb⟩ := hd
      simp only [cSame, b_nil, b_cons, k_next, k_ret, k_brk, k_cnt, f_for, f_comp, ss_pass, ss_ret, ss_retN, ss_expr, ss_set, ss_tset, ss_sub, ss_sfld, ss_aug, ss_ite, ss_for, ss_whl, ss_brk, ss_cnt, e_slot, e_non, e_bl, e_int, e_str, e_bin, e_neg, e_inv, e_cmp, e_chain, e_and, e_or, e_not, e_ife, e_tup, e_lst, e_call, e_mk, e_bi, e_met, e_om, e_idx, e_slc, e_fld, e_comp, e_frz, t_and, t_or, t_not, t_val, q_none, q_some, es_nil, es_cons, o_none, o_some, i_val, i_rng, i_rng2, i_enum, i_zip, i_rev, a_nm, a_tp, sets_nil, sets_cons, wipe_nil, wipe_cons, tru_bl, tru_int, seq_lst, seq_tup, lst_lst, bi_len, bi_lenT, bi_abs, bi_int, bi_min2, bi_max2, bi_listL, bi_tupleL, bi_sum, W_ok, b_add, b_sub, b_mul, b_div, b_mod, b_pow, b_shl, b_shr, b_and, b_or, b_xor, c_eq, c_ne, c_lt, c_le, c_gt, c_ge, c_eqb, c_neb, endW_ret, endW_next, stepW_next, stepW_cnt, stepW_brk, stepW_ret, List.map_cons, List.map_nil, List.length_cons, List.length_nil, List.replicate, List.cons_append, List.nil_append, List.set_cons_zero, List.set_cons_succ, List.getElem?_cons_zero, List.getElem?_cons_succ, Option.some.injEq, D.int.injEq, D.bl.injEq, exEq, exists_eq_left', if_true, if_false, Bool.false_eq_true, decide_eq_true_eq, Option.isSome_some, true_and, reduceCtorEq, Int.toNat_natCast, Nat.reduceAdd, Nat.reduceSub, c_is, ty_str_bool, ty_str_int, ty_str_str, reduceCtorEq, decide_false, cmpD, W_bind, W_opt, eqB_self ha (by omega)]; exact fin
    | tup xs =>
      obtain ⟨a, ha, hb⟩ := hd
      rw [D.dep] at ha
      cases h : D.deps xs with
      | none => rw [h] at ha; cases ha
      | some m =>
        rw [h] at ha; simp at ha
        rw [D.wide, Bool.and_eq_true, decide_eq_true_eq] at hw
        simp only [cSame, b_nil, b_cons, k_next, k_ret, k_brk, k_cnt, f_for, f_comp, ss_pass, ss_ret, ss_retN, ss_expr, ss_set, ss_tset, ss_sub, ss_sfld, ss_aug, ss_ite, ss_for, ss_whl, ss_brk, ss_cnt, e_slot, e_non, e_bl, e_int, e_str, e_bin, e_neg, e_inv, e_cmp, e_chain, e_and, e_or, e_not, e_ife, e_tup, e_lst, e_call, e_mk, e_bi, e_met, e_om, e_idx, e_slc, e_fld, e_comp, e_frz, t_and, t_or, t_not, t_val, q_none, q_some, es_nil, es_cons, o_none, o_some, i_val, i_rng, i_rng2, i_enum, i_zip, i_rev, a_nm, a_tp, sets_nil, sets_cons, wipe_nil, wipe_cons, tru_bl, tru_int, seq_lst, seq_tup, lst_lst, bi_len, bi_lenT, bi_abs, bi_int, bi_min2, bi_max2, bi_listL, bi_tupleL, bi_sum, W_ok, b_add, b_sub, b_mul, b_div, b_mod, b_pow, b_shl, b_shr, b_and, b_or, b_xor, c_eq, c_ne, c_lt, c_le, c_gt, c_ge, c_eqb, c_neb, endW_ret, endW_next, stepW_next, stepW_cnt, stepW_brk, stepW_ret, List.map_cons, List.map_nil, List.length_cons, List.length_nil, List.replicate, List.cons_append, List.nil_append, List.set_cons_zero, List.set_cons_succ, List.getElem?_cons_zero, List.getElem?_cons_succ, Option.some.injEq, D.int.injEq, D.bl.injEq, exEq, exists_eq_left', if_true, if_false, Bool.false_eq_true, decide_eq_true_eq, Option.isSome_some, true_and, reduceCtorEq, Int.toNat_natCast, Nat.reduceAdd, Nat.reduceSub, c_is, ty_tup_bool, ty_tup_int, ty_tup_str, ty_tup_tuple, ty_tup_list, reduceCtorEq, decide_false, decide_true, Bool.not_true]
        refine ⟨⟨by omega, by omega⟩, ?_⟩
        exact same_step seq_tup (fun _ e => by cases e) (by omega) (lem xs m h (by omega) hw.2) (by simp only [b_nil, b_cons, k_next, k_ret, k_brk, k_cnt, f_for, f_comp, ss_pass, ss_ret, ss_retN, ss_expr, ss_set, ss_tset, ss_sub, ss_sfld, ss_aug, ss_ite, ss_for, ss_whl, ss_brk, ss_cnt, e_slot, e_non, e_bl, e_int, e_str, e_bin, e_neg, e_inv, e_cmp, e_chain, e_and, e_or, e_not, e_ife, e_tup, e_lst, e_call, e_mk, e_bi, e_met, e_om, e_idx, e_slc, e_fld, e_comp, e_frz, t_and, t_or, t_not, t_val, q_none, q_some, es_nil, es_cons, o_none, o_some, i_val, i_rng, i_rng2, i_enum, i_zip, i_rev, a_nm, a_tp, sets_nil, sets_cons, wipe_nil, wipe_cons, tru_bl, tru_int, seq_lst, seq_tup, lst_lst, bi_len, bi_lenT, bi_abs, bi_int, bi_min2, bi_max2, bi_listL, bi_tupleL, bi_sum, W_ok, b_add, b_sub, b_mul, b_div, b_mod, b_pow, b_shl, b_shr, b_and, b_or, b_xor, c_eq, c_ne, c_lt, c_le, c_gt, c_ge, c_eqb, c_neb, endW_ret, endW_next, stepW_next, stepW_cnt, stepW_brk, stepW_ret, List.map_cons, List.map_nil, List.length_cons, List.length_nil, List.replicate, List.cons_append, List.nil_append, List.set_cons_zero, List.set_cons_succ, List.getElem?_cons_zero, List.getElem?_cons_succ, Option.some.injEq, D.int.injEq, D.bl.injEq, exEq, exists_eq_left', if_true, if_false, Bool.false_eq_true, decide_eq_true_eq, Option.isSome_some, true_and, reduceCtorEq, Int.toNat_natCast, Nat.reduceAdd, Nat.reduceSub]; exact fin)
    | lst xs =>
      obtain ⟨a, ha, hb⟩ := hd
      rw [D.dep] at ha
      cases h : D.deps xs with
      | none => rw [h] at ha; cases ha
      | some m =>
        rw [h] at ha; simp at ha
        rw [D.wide, Bool.and_eq_true, decide_eq_true_eq] at hw
        simp only [cSame, b_nil, b_cons, k_next, k_ret, k_brk, k_cnt, f_for, f_comp, ss_pass, ss_ret, ss_retN, ss_expr, ss_set, ss_tset, ss_sub, ss_sfld, ss_aug, ss_ite, ss_for, ss_whl, ss_brk, ss_cnt, e_slot, e_non, e_bl, e_int, e_str, e_bin, e_neg, e_inv, e_cmp, e_chain, e_and, e_or, e_not, e_ife, e_tup, e_lst, e_call, e_mk, e_bi, e_met, e_om, e_idx, e_slc, e_fld, e_comp, e_frz, t_and, t_or, t_not, t_val, q_none, q_some, es_nil, es_cons, o_none, o_some, i_val, i_rng, i_rng2, i_enum, i_zip, i_rev, a_nm, a_tp, sets_nil, sets_cons, wipe_nil, wipe_cons, tru_bl, tru_int, seq_lst, seq_tup, lst_lst, bi_len, bi_lenT, bi_abs, bi_int, bi_min2, bi_max2, bi_listL, bi_tupleL, bi_sum, W_ok, b_add, b_sub, b_mul, b_div, b_mod, b_pow, b_shl, b_shr, b_and, b_or, b_xor, c_eq, c_ne, c_lt, c_le, c_gt, c_ge, c_eqb, c_neb, endW_ret, endW_next, stepW_next, stepW_cnt, stepW_brk, stepW_ret, List.map_cons, List.map_nil, List.length_cons, List.length_nil, List.replicate, List.cons_append, List.nil_append, List.set_cons_zero, List.set_cons_succ, List.getElem?_cons_zero, List.getElem?_cons_succ, Option.some.injEq, D.int.injEq, D.bl.injEq, exEq, exists_eq_left', if_true, if_false, Bool.false_eq_true, decide_eq_true_eq, Option.isSome_some, true_and, reduceCtorEq, Int.toNat_natCast, Nat.reduceAdd, Nat.reduceSub, c_is, ty_lst_bool, ty_lst_int, ty_lst_str, ty_lst_tuple, ty_lst_list, reduceCtorEq, decide_false, decide_true, Bool.not_true]
        refine ⟨⟨by omega, by omega⟩, ?_⟩
        exact same_step seq_lst (fun _ e => by cases e) (by omega) (lem xs m h (by omega) hw.2) (by simp only [b_nil, b_cons, k_next, k_ret, k_brk, k_cnt, f_for, f_comp, ss_pass, ss_ret, ss_retN, ss_expr, ss_set, ss_tset, ss_sub, ss_sfld, ss_aug, ss_ite, ss_for, ss_whl, ss_brk, ss_cnt, e_slot, e_non, e_bl, e_int, e_str, e_bin, e_neg, e_inv, e_cmp, e_chain, e_and, e_or, e_not, e_ife, e_tup, e_lst, e_call, e_mk, e_bi, e_met, e_om, e_idx, e_slc, e_fld, e_comp, e_frz, t_and, t_or, t_not, t_val, q_none, q_some, es_nil, es_cons, o_none, o_some, i_val, i_rng, i_rng2, i_enum, i_zip, i_rev, a_nm, a_tp, sets_nil, sets_cons, wipe_nil, wipe_cons, tru_bl, tru_int, seq_lst, seq_tup, lst_lst, bi_len, bi_lenT, bi_abs, bi_int, bi_min2, bi_max2, bi_listL, bi_tupleL, bi_sum, W_ok, b_add, b_sub, b_mul, b_div, b_mod, b_pow, b_shl, b_shr, b_and, b_or, b_xor, c_eq, c_ne, c_lt, c_le, c_gt, c_ge, c_eqb, c_neb, endW_ret, endW_next, stepW_next, stepW_cnt, stepW_brk, stepW_ret, List.map_cons, List.map_nil, List.length_cons, List.length_nil, List.replicate, List.cons_append, List.nil_append, List.set_cons_zero, List.set_cons_succ, List.getElem?_cons_zero, List.getElem?_cons_succ, Option.some.injEq, D.int.injEq, D.bl.injEq, exEq, exists_eq_left', if_true, if_false, Bool.false_eq_true, decide_eq_true_eq, Option.isSome_some, true_and, reduceCtorEq, Int.toNat_natCast, Nat.reduceAdd, Nat.reduceSub]; exact fin)
    | obj c vs => obtain ⟨a, ha, _⟩ := hd; cases ha
    | ref m => obtain ⟨a, ha, _⟩ := hd; cases ha
end Py
/-! Whole numbers as sets of bits. -/
namespace Py
open PySem PySem.W PyProof.Rows
theorem pow_le {n k : Nat} (h : n ≤ k) : (2 : Int) ^ n ≤ 2 ^ k := by
  rcases Nat.lt_or_eq_of_le h with g | g
  · exact Int.le_of_lt (Int.pow_lt_pow_of_lt (by omega) g)
  · rw [g]; exact Int.le_refl _
/-- bit k of x (two's complement) -/
def ib (x : Int) (k : Nat) : Bool := decide (x / 2 ^ k % 2 = 1)
theorem ib_def {x : Int} {k : Nat} : (x / 2 ^ k % 2 = 1) = (ib x k = true) := by simp [ib]
theorem ib_zero {x : Int} : ib x 0 = decide (x % 2 = 1) := by simp [ib]
theorem ib_succ {x : Int} {k : Nat} : ib x (k + 1) = ib (x / 2) k := by
  unfold ib
  rw [Int.pow_succ', Int.ediv_ediv_of_nonneg (by omega : (0 : Int) ≤ 2)]
theorem and1 (x : Int) : Builtin.bitAnd x 1 = x % 2 := bitAnd_m1 x
theorem ib_and : ∀ (k : Nat) (x y : Int), ib (Builtin.bitAnd x y) k = (ib x k && ib y k)
  | 0, x, y => by
    rw [ib_zero, ib_zero, ib_zero]
    have h := kbt_halves x y
    split at h
    · rename_i g; rw [h, g.1, g.2]; simp
    · rename_i g
      have : Builtin.bitAnd x y % 2 = 0 := by omega
      rw [this]
      by_cases h1 : x % 2 = 1
      · by_cases h2 : y % 2 = 1
        · exact absurd ⟨h1, h2⟩ g
        · simp [h2]
      · simp [h1]
  | k + 1, x, y => by
    rw [ib_succ, ib_succ, ib_succ]
    have h := kbt_halves x y
    have : Builtin.bitAnd x y / 2 = Builtin.bitAnd (x / 2) (y / 2) := by split at h <;> omega
    rw [this, ib_and k]
theorem ib_not : ∀ (k : Nat) (x : Int), ib (Builtin.bitNot x) k = !ib x k
  | 0, x => by
    rw [ib_zero, ib_zero, kbt_not]
    by_cases h : x % 2 = 1
    · have : ¬ ((-x - 1) % 2 = 1) := by omega
      simp [h, this]
    · have : (-x - 1) % 2 = 1 := by omega
      simp [h, this]
  | k + 1, x => by
    rw [ib_succ, ib_succ]
    have : Builtin.bitNot x / 2 = Builtin.bitNot (x / 2) := by rw [kbt_not, kbt_not]; omega
    rw [this, ib_not k]
theorem ib_or (k : Nat) (x y : Int) : ib (Builtin.bitOr x y) k = (ib x k || ib y k) := by
  unfold Builtin.bitOr
  rw [ib_not, ib_and, ib_not, ib_not]
  cases ib x k <;> cases ib y k <;> rfl
theorem ib_0 (k : Nat) : ib 0 k = false := by simp [ib]
theorem ib_pow (j k : Nat) : ib ((1 : Int) * 2 ^ j) k = decide (k = j) := by
  rw [Int.one_mul]
  unfold ib
  have h2 : ∀ n : Nat, (2 : Int) ^ n ≠ 0 := fun n => Int.pow_ne_zero (by omega)
  rcases Nat.lt_trichotomy k j with h | h | h
  · obtain ⟨m, rfl⟩ : ∃ m, j = k + (m + 1) := ⟨j - k - 1, by omega⟩
    rw [Int.pow_add, Int.mul_ediv_cancel_left _ (h2 k), Int.pow_succ]
    simp
  · subst h
    rw [Int.ediv_self (h2 k)]; simp
  · have : (2 : Int) ^ j / 2 ^ k = 0 := by
      apply Int.ediv_eq_zero_of_lt (Int.le_of_lt (Int.pow_pos (by omega)))
      exact Int.pow_lt_pow_of_lt (by omega) h
    rw [this]; simp; omega
/-- no bit from n on -/
theorem ib_ge {x : Int} {n k : Nat} (h0 : 0 ≤ x) (h : x < 2 ^ n) (hk : n ≤ k) : ib x k = false := by
  unfold ib
  have : x / 2 ^ k = 0 := Int.ediv_eq_zero_of_lt h0 (Int.lt_of_lt_of_le h (pow_le hk))
  rw [this]; simp
theorem ib_all_neg : ∀ (n : Nat) {x : Int}, (∀ k, n ≤ k → ib x k = false) → 0 ≤ x ∧ x < 2 ^ n
  | 0, x, h => by
    have : x = 0 := by
      -- all bits are clear
      have key : ∀ (m : Nat) (y : Int), y.natAbs < m → (∀ k, ib y k = false) → y = 0 := by
        intro m
        induction m with
        | zero => intro y hy; omega
        | succ m ih =>
          intro y hy hb
          have h0 := hb 0
          rw [ib_zero] at h0
          have e : y % 2 = 0 := by
            have : ¬ (y % 2 = 1) := by simpa using h0
            omega
          by_cases hy0 : y = 0
          · exact hy0
          · have := ih (y / 2) (by omega) (fun k => by rw [← ib_succ]; exact hb (k + 1))
            omega
      exact key (x.natAbs + 1) x (by omega) (fun k => h k (Nat.zero_le k))
    subst this
    simp
  | n + 1, x, h => by
    have := ib_all_neg n (x := x / 2) (fun k hk => by rw [← ib_succ]; exact h (k + 1) (by omega))
    rw [Int.pow_succ]
    omega
/-- bits tell numbers apart -/
theorem ib_ext {x y : Int} (h : ∀ k, ib x k = ib y k) : x = y := by
  have key : ∀ (m : Nat) (x y : Int), x.natAbs + y.natAbs < m → (∀ k, ib x k = ib y k) → x = y := by
    intro m
    induction m with
    | zero => intro x y h; omega
    | succ m ih =>
      intro x y hm hb
      have h0 := hb 0
      rw [ib_zero, ib_zero] at h0
      have e : x % 2 = y % 2 := by
        by_cases h1 : x % 2 = 1 <;> by_cases h2 : y % 2 = 1 <;> simp [h1, h2] at h0 <;> omega
      by_cases hs : (x / 2).natAbs + (y / 2).natAbs < m
      · have := ih (x / 2) (y / 2) hs (fun k => by rw [← ib_succ, ← ib_succ]; exact hb (k + 1))
        omega
      · -- x, y among 0 and -1
        have hx : x = 0 ∨ x = -1 := by omega
        have hy : y = 0 ∨ y = -1 := by omega
        omega
  exact key _ x y (Nat.lt_succ_self _) h
theorem ib_xor (k : Nat) (x y : Int) : ib (Builtin.bitXor x y) k = (ib x k != ib y k) := by
  have key : ∀ (k : Nat) (x y : Int), ib (x + y - 2 * Builtin.bitAnd x y) k = (ib x k != ib y k) := by
    intro k
    induction k with
    | zero =>
      intro x y
      rw [ib_zero, ib_zero, ib_zero]
      by_cases h1 : x % 2 = 1 <;> by_cases h2 : y % 2 = 1
      · have : ¬ ((x + y - 2 * Builtin.bitAnd x y) % 2 = 1) := by omega
        rw [decide_eq_false this, decide_eq_true h1, decide_eq_true h2]; rfl
      · have : (x + y - 2 * Builtin.bitAnd x y) % 2 = 1 := by omega
        simp [h1, h2, this]
      · have : (x + y - 2 * Builtin.bitAnd x y) % 2 = 1 := by omega
        simp [h1, h2, this]
      · have : ¬ ((x + y - 2 * Builtin.bitAnd x y) % 2 = 1) := by omega
        rw [decide_eq_false this, decide_eq_false h1, decide_eq_false h2]; rfl
    | succ k ih =>
      intro x y
      rw [ib_succ, ib_succ, ib_succ, ← ih (x / 2) (y / 2)]
      congr 1
      have h := kbt_halves x y
      split at h
      · rename_i g; omega
      · rename_i g
        by_cases h1 : x % 2 = 1 <;> by_cases h2 : y % 2 = 1
        · exact absurd ⟨h1, h2⟩ g
        · omega
        · omega
        · omega
  rw [bitXor_and]; exact key k x y
/-- the text's look at a bit -/
theorem bit_look {x : Int} {k : Nat} : Builtin.bitAnd (x / 2 ^ k) 1 = if ib x k then 1 else 0 := by
  rw [and1]
  unfold ib
  by_cases h : x / 2 ^ k % 2 = 1
  · simp [h]
  · simp [h]; omega
theorem bit_look1 {x : Int} {k : Nat} : decide (Builtin.bitAnd (x / 2 ^ k) 1 = 1) = ib x k := by
  rw [bit_look]; cases ib x k <;> simp
theorem bit_look0 {x : Int} {k : Nat} : decide (Builtin.bitAnd (x / 2 ^ k) 1 = 0) = !ib x k := by
  rw [bit_look]; cases ib x k <;> simp
theorem bit_p1 {x : Int} {k : Nat} : (Builtin.bitAnd (x / 2 ^ k) 1 = 1) = (ib x k = true) := by
  rw [bit_look]; cases ib x k <;> simp
theorem bit_p0 {x : Int} {k : Nat} : (Builtin.bitAnd (x / 2 ^ k) 1 = 0) = (ib x k = false) := by
  rw [bit_look]; cases ib x k <;> simp
theorem dec_false {b : Bool} : decide (b = false) = !b := by cases b <;> rfl
theorem dec_true {b : Bool} : decide (b = true) = b := by cases b <;> rfl
theorem not_true_p {b : Bool} : ((!b) = true) = (b = false) := by cases b <;> simp
end Py
namespace Py
open PySem
section
variable {S : Sto} {Q : D → Sto → Prop}
theorem seq_nostr {d : D} {xs : List D} (h : seqOf S d = some xs) : ∀ z, d ≠ .str z := by
  intro z e
  subst e
  cases h
theorem bi_lenS {d : D} {xs : List D} (h : seqOf S d = some xs) : W (biD .len [d] S) Q = Q (.int xs.length) S := by
  cases d with
  | str z => exact absurd rfl (seq_nostr h z)
  | non => cases h
  | bl b => cases h
  | int i => cases h
  | obj c vs => cases h
  | tup ys => cases h; exact bi_lenT
  | lst ys => cases h; exact bi_len
  | ref n =>
    show W ((optR S (seqOf S (.ref n))).bind _) Q = _
    rw [h]; simp only [optR_some, bind_ok, W_ok]
theorem idx_S {x : D} {xs : List D} {k : Nat} {d : D} (h : seqOf S x = some xs) (hk : xs[k]? = some d) : idxD x (.int (k : Int)) S = .ok d S := idx_seq h hk (seq_nostr h)
theorem idx_0 {x : D} {xs : List D} {d : D} (h : seqOf S x = some xs) (hk : xs[0]? = some d) : idxD x (.int 0) S = .ok d S := idx_S (k := 0) h hk
theorem idx_1 {x : D} {xs : List D} {d : D} (h : seqOf S x = some xs) (hk : xs[1]? = some d) : idxD x (.int 1) S = .ok d S := idx_S (k := 1) h hk
theorem shl1 {b : Nat} (h : b < 1000000) : 0 ≤ (b : Int) ∧ ((1 : Int).natAbs.log2 : Int) + 1 + b ≤ 134217728 := by
  have : (1 : Int).natAbs.log2 = 0 := by decide
  rw [this]; omega
/-- an item of the list at the end of the store -/
theorem get_new {X : Sto} {o : O} : (S ++ o :: X)[S.length]? = some o := by simp
theorem get_old {X : Sto} {n : Nat} {o : O} (h : S[n]? = some o) : (S ++ X)[n]? = some o := by
  have : n < S.length := by
    rcases Nat.lt_or_ge n S.length with g | g
    · exact g
    · rw [List.getElem?_eq_none g] at h; cases h
  rw [List.getElem?_append_left this]; exact h
theorem seq_new {X : Sto} {xs : List D} : seqOf (S ++ .lst xs :: X) (.ref S.length) = some xs := seq_ref get_new
theorem len_new {X : Sto} {xs : List D} : W (biD .len [.ref S.length] (S ++ .lst xs :: X)) Q = Q (.int xs.length) (S ++ .lst xs :: X) := bi_lenS seq_new
theorem seq_old {X : Sto} {d : D} {xs : List D} (h : seqOf S d = some xs) : seqOf (S ++ X) d = some xs := by
  cases d with
  | ref n =>
    rw [seqOf] at h
    cases e : S[n]? with
    | none => rw [e] at h; cases h
    | some o => rw [seqOf, get_old e]; rw [e] at h; exact h
  | _ => exact h
theorem end_pure {S' : Sto} {d : D} (h : Gr S S') (p : d.pure = true) : W (shutK S d S') Q = Q d (S'.take S.length) := by rw [shutK_pure h p, W_ok]
theorem end_same {d : D} (p : d.pure = true) : W (shutK S d S) Q = Q d S := by rw [end_pure (Gr.refl S) p, List.take_of_length_le (Nat.le_refl _)]
theorem end_new {X : Sto} {d : D} (p : d.pure = true) : W (shutK S d (S ++ X)) Q = Q d S := by rw [end_pure (Gr.app S X) p]; simp
theorem end_lst {xs : List D} (p : D.pures xs = true) : W (shutK S (.ref S.length) (S ++ [.lst xs])) Q = Q (.ref S.length) (S ++ [.lst xs]) := by rw [shutK_last p, W_ok]
theorem frz_lst {xs : List D} (p : D.pures xs = true) : W (shut S (.ref S.length) (S ++ [.lst xs])) Q = Q (.lst xs) S := by rw [shut_last p, W_ok]
end
theorem compR0 {n : Nat} {S0 : Sto} {f : D → Sto → R (Option D)} (g : Nat → Option D) {S : Sto} (hn : n ≤ lim)
    (step : ∀ j, j < n → f (.int j) S = .ok (g j) S) : compL S0 (.rg 0 n) f (fuelOf S (.rg 0 n)) 0 [] S = .ok ((List.range n).filterMap g) S := by
  rw [List.range_eq_range']
  exact compR_pure (a := 0) g rfl hn fun j _ h => step j (by omega)
theorem ite_both {p A B : Prop} [Decidable p] (h : p → B → A) (b : B) : if p then A else B := by
  split
  · rename_i q; exact h q b
  · exact b
theorem add_lst {S : Sto} {n : Nat} {a b : List D} {Q : D → Sto → Prop} (h : S[n]? = some (.lst a)) : W (binD .Add (.ref n) (.lst b) S) Q = (a.length + b.length ≤ lim ∧ Q (.ref S.length) (S ++ [.lst (a ++ b)])) := by
  show W (match lstOf S (.ref n), lstOf S (.lst b), Operator.Add with
    | some a, some b, .Add => if a.length + b.length ≤ lim then .ok (.ref S.length) (S ++ [.lst (a ++ b)]) else .bad
    | _, _, _ => .bad) Q = _
  rw [lst_ref h]
  show W (if a.length + b.length ≤ lim then _ else _) Q = _
  rw [W_ifb, W_ok]
/-! ### lists of counts -/
abbrev nl (l : List Nat) : List D := l.map fun k : Nat => .int (k : Int)
theorem pures_nl (l : List Nat) : D.pures (nl l) = true := pures_map (fun _ => rfl) l
theorem deps_nl : ∀ l : List Nat, D.deps (nl l) = some 0
  | [] => rfl
  | x :: l => by
    rw [nl, List.map_cons, D.deps]
    show ((D.deps (nl l)).map _) = _
    rw [deps_nl l]; rfl
theorem inB_nl {S : Sto} {j : Nat} {l : List Nat} : inB S (.int (j : Int)) (.lst (nl l)) = some (decide (j ∈ l)) := by
  unfold inB
  rw [rsv_pure (d := .int (j : Int)) rfl, rsv_pure (d := .lst (nl l)) (pures_nl l), Option.bind_some, Option.bind_some]
  have h1 : D.shp (.int (j : Int)) = true := rfl
  have h2 : D.shp (.lst (nl l)) = true := by simp [D.shp, D.dep, deps_nl]
  simp only [h1, h2, Bool.and_self, if_true]
  congr 1
  rw [Bool.eq_iff_iff]
  simp [D.eqv]
  exact ⟨fun ⟨x, h, e⟩ => by rw [show j = x by omega]; exact h, fun h => ⟨j, h, rfl⟩⟩
theorem c_in_nl {S : Sto} {j : Nat} {l : List Nat} : cmpD .In (.int (j : Int)) (.lst (nl l)) S = .ok (.bl (decide (j ∈ l))) S := by
  simp [cmpD, inB_nl]
theorem filterMap_nl (p : Nat → Bool) : ∀ l : List Nat, l.filterMap (fun j => if p j then some (D.int (j : Int)) else none) = nl (l.filter p)
  | [] => rfl
  | x :: l => by
    rw [List.filterMap_cons]
    cases h : p x <;> simp [h, filterMap_nl p l]
/-- [k for k in l if p k], of a list of counts -/
theorem filterMap_nl2 {p : Nat → Bool} {g : D → Option D} (hg : ∀ k : Nat, g (.int (k : Int)) = if p k then some (.int (k : Int)) else none) : ∀ l : List Nat, (nl l).filterMap g = nl (l.filter p)
  | [] => rfl
  | x :: l => by
    rw [nl, List.map_cons, List.filterMap_cons, hg]
    have ih := filterMap_nl2 hg l
    cases h : p x <;> simp [h, ih]
end Py
/-! A store with a tape in it. -/
namespace Py
open PySem
/-- S is S0 with a tape at t, from which at most b were taken -/
def St (t b : Nat) (S0 S : Sto) : Prop := ∃ o, S = S0.set t o ∧ Tp b o ∧ t < S0.length
section
variable {t b c : Nat} {S0 S S' : Sto}
theorem St.len (h : St t b S0 S) : S.length = S0.length := by
  obtain ⟨o, rfl, _⟩ := h; simp
theorem St.mono (h : St t b S0 S) (hc : b ≤ c) : St t c S0 S := by
  obtain ⟨o, e, p, l⟩ := h
  exact ⟨o, e, p.mono hc, l⟩
theorem St.get (h : St t b S0 S) : ∃ o, S[t]? = some o ∧ Tp b o := by
  obtain ⟨o, rfl, p, l⟩ := h
  exact ⟨o, by simp [l], p⟩
theorem St.lt (h : St t b S0 S) : t < S.length := by
  rw [h.len]; obtain ⟨o, e, p, l⟩ := h; exact l
theorem St.gr (h : St t b S0 S) (h' : St t c S0 S') : Gr S S' := by
  obtain ⟨o, rfl, p, l⟩ := h
  obtain ⟨o', rfl, p', _⟩ := h'
  have := (Gr.refl (S0.set t o)).set (n := t) p'.pure
  rwa [List.set_set] at this
theorem St.self (h : S[t]? = some (o : O)) (p : Tp b o) : St t b S S := by
  have : t < S.length := by
    rcases Nat.lt_or_ge t S.length with g | g
    · exact g
    · rw [List.getElem?_eq_none g] at h; cases h
  refine ⟨o, ?_, p, this⟩
  rw [List.getElem?_eq_getElem this] at h
  have h := Option.some.inj h
  rw [← h, List.set_getElem_self]
theorem St.other (h : St t b S0 S) {n : Nat} (hn : n ≠ t) : S[n]? = S0[n]? := by
  obtain ⟨o, rfl, p, l⟩ := h
  rw [List.getElem?_set_ne (Ne.symm hn)]
variable {Q : D → Sto → Prop}
theorem St.ret (h : St t b S0 S) (h' : St t c S0 S') {d : D} (p : d.pure = true) : W (shutK S d S') Q = Q d S' := by
  rw [end_pure (h.gr h') p, List.take_of_length_le (by rw [h.len, h'.len]; exact Nat.le_refl _)]
theorem St.ret2 (h : St t b S0 S) (h' : St t c S0 S') {X : Sto} {d : D} (p : d.pure = true) : W (shutK S d (S' ++ X)) Q = Q d S' := by
  rw [end_pure (h.gr h').push p, show S.length = S'.length by rw [h.len, h'.len]]; simp
theorem St.frz (h : St t b S0 S) (h' : St t c S0 S') {ds : List D} (p : D.pures ds = true) : W (shut S (.ref S'.length) (S' ++ [.lst ds])) Q = Q (.lst ds) S' := by
  rw [shut_ref (n := S'.length) (xs := ds) (h.gr h').push (by rw [h.len, h'.len]; exact Nat.le_refl _) (by simp) p, W_ok, show S.length = S'.length by rw [h.len, h'.len]]; simp
theorem St.retL (h : St t b S0 S) (h' : St t c S0 S') {ds : List D} (p : D.pures ds = true) : W (shutK S (.ref S'.length) (S' ++ [.lst ds])) Q = Q (.ref S'.length) (S' ++ [.lst ds]) := by
  have e : S.length = S'.length := by rw [h.len, h'.len]
  rw [shutK_ref (n := S'.length) (xs := ds) (h.gr h').push (by omega) (by simp) p, W_ok, e]; simp
end
theorem St.ext {t b : Nat} {S0 S : Sto} (h : St t b S0 S) (X : Sto) : St t b (S ++ X) (S ++ X) := by
  obtain ⟨o, ho, p⟩ := h.get
  exact St.self (o := o) (get_old ho) p
theorem St.unext {t b c : Nat} {S0 S X S' : Sto} (h : St t b S0 S) (q : St t c (S ++ X) S') : ∃ S1, S' = S1 ++ X ∧ St t c S0 S1 ∧ S1.length = S.length := by
  obtain ⟨o2, rfl, p2, _⟩ := q
  have tl : t < S.length := h.lt
  refine ⟨S.set t o2, by rw [List.set_append_left _ _ tl], ?_, by simp⟩
  obtain ⟨o1, rfl, _, l⟩ := h
  exact ⟨o2, by rw [List.set_set], p2, l⟩
theorem take_St {T : Tab} {P : Nat → Option CF} {k f : Nat} (hP : P f = some cTake) {S0 S : Sto} {t b : Nat} {n : Int} (h : St t b S0 S) (hb : b < 2 ^ 60) (hn : 0 < n) :
    W (sem T P (k + 1) f [.ref t, .int n] S) fun d S' => ∃ v, d = .int v ∧ 0 ≤ v ∧ v < n ∧ St t (b + 1) S0 S' := by
  obtain ⟨o, ho, p⟩ := h.get
  refine (take_ok hP ho p hb hn).mono fun d S' h2 => ?_
  obtain ⟨v, o', rfl, h0, h1, rfl, p'⟩ := h2
  obtain ⟨o1, rfl, _, l⟩ := h
  exact ⟨v, rfl, h0, h1, o', by rw [List.set_set], p', l⟩
/-- a comprehension whose turns take from the tape and give numbers -/
theorem comp_tape {t b c n : Nat} {S0 S1 S : Sto} {f : D → Sto → R (Option D)} {Q : List D → Sto → Prop} (hn : n ≤ 64) (h : St t b S0 S)
    (step : ∀ j b' S', j < n → b' ≤ b + c * n → St t b' S0 S' → W (f (.int (j : Int)) S') fun o S'' => ∃ v, o = some (.int v) ∧ St t (b' + c) S0 S'')
    (fin : ∀ (L : List Int) S', L.length = n → St t (b + c * n) S0 S' → Q (il L) S') : W (compL S1 (.rg 0 n) f (fuelOf S (.rg 0 n)) 0 [] S) Q := by
  refine W_compR (a := 0) (n := n) (fun j acc S' => ∃ L : List Int, acc = il L ∧ L.length = j ∧ St t (b + c * j) S0 S') rfl (Nat.le_trans hn (by decide)) ⟨[], rfl, rfl, by simpa using h⟩ (fun j acc S' _ hj g => ?_) (fun acc S' g => ?_)
  · obtain ⟨L, rfl, hl, g⟩ := g
    have hm : c * j ≤ c * n := Nat.mul_le_mul_left c (by omega)
    refine (step j _ S' (by omega) (by omega) g).mono fun o S2 q => ?_
    obtain ⟨v, rfl, q⟩ := q
    exact ⟨L ++ [v], by simp, by simp [hl], by rw [Nat.mul_succ]; exact q.mono (by omega)⟩
  · obtain ⟨L, rfl, hl, g⟩ := g
    exact fin L S' (by omega) (by rw [Nat.zero_add] at g; exact g)
theorem comp_tapeS {t b c : Nat} {R0 : List Int} {S0 S1 S : Sto} {f : D → Sto → R (Option D)} {Q : List D → Sto → Prop} (hn : R0.length ≤ 64) (h : St t b S0 S)
    (step : ∀ (m : Int) b' S', b' ≤ b + c * R0.length → St t b' S0 S' → W (f (.int m) S') fun o S'' => ∃ v, o = some (.int v) ∧ St t (b' + c) S0 S'')
    (fin : ∀ (L : List Int) S', L.length = R0.length → St t (b + c * R0.length) S0 S' → Q (il L) S') : W (compL S1 (.sq (.lst (il R0))) f (fuelOf S (.sq (.lst (il R0)))) 0 [] S) Q := by
  refine W_compS (xs := il R0) (fun j acc S' => ∃ L : List Int, acc = il L ∧ L.length = j ∧ St t (b + c * j) S0 S') (fun _ _ _ _ => seq_lst) (by rw [List.length_map]; exact Nat.le_trans hn (by decide)) ⟨[], rfl, rfl, by simpa using h⟩ (fun j x acc S' hx hj g => ?_) (fun acc S' g => ?_)
  · obtain ⟨L, rfl, hl, g⟩ := g
    have hj : j < R0.length := by simpa using hj
    have hm : c * j ≤ c * R0.length := Nat.mul_le_mul_left c (by omega)
    have hx : x = .int R0[j] := by simp [hj] at hx; exact hx.symm
    subst hx
    refine (step _ _ S' (by omega) g).mono fun o S2 q => ?_
    obtain ⟨v, rfl, q⟩ := q
    exact ⟨L ++ [v], by simp, by simp [hl], by rw [Nat.mul_succ]; exact q.mono (by omega)⟩
  · obtain ⟨L, rfl, hl, g⟩ := g
    rw [List.length_map] at hl g
    exact fin L S' hl g
theorem set_new {S X : Sto} {xs : List D} {k : Nat} {v : D} (h : k < xs.length) : setD (.ref S.length) (.int (k : Int)) v (S ++ .lst xs :: X) = .ok () (S ++ .lst (xs.set k v) :: X) := by
  show (match (S ++ O.lst xs :: X)[S.length]? with | some (.lst xs) => _ | _ => _) = _
  rw [get_new]
  show ((optR _ (ixD xs.length (k : Int))).bind _) = _
  rw [ixD_nat h, optR_some, bind_ok]
  simp
theorem il_set {A : List Int} {k : Nat} {v : Int} : (il A).set k (.int v) = il (A.set k v) := by rw [il, il, List.map_set]
end Py
/-! Objects; loops that look at each. -/
namespace Py
open PySem
theorem c_non {S : Sto} {x : D} : cmpD .Is x .non S = .ok (.bl (decide (x = .non))) S := c_is
theorem c_isnon {S : Sto} {x : D} : cmpD .IsNot x .non S = .ok (.bl (!decide (x = .non))) S := c_isn
theorem tup_0 {a : D} {r : List D} {S : Sto} : idxD (.tup (a :: r)) (.int 0) S = .ok a S := idx_S (k := 0) seq_tup rfl
theorem lst_0 {a : D} {r : List D} {S : Sto} : idxD (.lst (a :: r)) (.int 0) S = .ok a S := idx_S (k := 0) seq_lst rfl
theorem tup_1 {a b : D} {r : List D} {S : Sto} : idxD (.tup (a :: b :: r)) (.int 1) S = .ok b S := idx_S (k := 1) seq_tup rfl
theorem lst_1 {a b : D} {r : List D} {S : Sto} : idxD (.lst (a :: b :: r)) (.int 1) S = .ok b S := idx_S (k := 1) seq_lst rfl
theorem tup_2 {a b c : D} {r : List D} {S : Sto} : idxD (.tup (a :: b :: c :: r)) (.int 2) S = .ok c S := idx_S (k := 2) seq_tup rfl
theorem lst_2 {a b c : D} {r : List D} {S : Sto} : idxD (.lst (a :: b :: c :: r)) (.int 2) S = .ok c S := idx_S (k := 2) seq_lst rfl
theorem tup_3 {a b c d : D} {r : List D} {S : Sto} : idxD (.tup (a :: b :: c :: d :: r)) (.int 3) S = .ok d S := idx_S (k := 3) seq_tup rfl
theorem lst_3 {a b c d : D} {r : List D} {S : Sto} : idxD (.lst (a :: b :: c :: d :: r)) (.int 3) S = .ok d S := idx_S (k := 3) seq_lst rfl
theorem tup_4 {a b c d e : D} {r : List D} {S : Sto} : idxD (.tup (a :: b :: c :: d :: e :: r)) (.int 4) S = .ok e S := idx_S (k := 4) seq_tup rfl
theorem lst_4 {a b c d e : D} {r : List D} {S : Sto} : idxD (.lst (a :: b :: c :: d :: e :: r)) (.int 4) S = .ok e S := idx_S (k := 4) seq_lst rfl
theorem tup_5 {a b c d e f : D} {r : List D} {S : Sto} : idxD (.tup (a :: b :: c :: d :: e :: f :: r)) (.int 5) S = .ok f S := idx_S (k := 5) seq_tup rfl
theorem lst_5 {a b c d e f : D} {r : List D} {S : Sto} : idxD (.lst (a :: b :: c :: d :: e :: f :: r)) (.int 5) S = .ok f S := idx_S (k := 5) seq_lst rfl
theorem tup_6 {a b c d e f g : D} {r : List D} {S : Sto} : idxD (.tup (a :: b :: c :: d :: e :: f :: g :: r)) (.int 6) S = .ok g S := idx_S (k := 6) seq_tup rfl
theorem lst_6 {a b c d e f g : D} {r : List D} {S : Sto} : idxD (.lst (a :: b :: c :: d :: e :: f :: g :: r)) (.int 6) S = .ok g S := idx_S (k := 6) seq_lst rfl
theorem tup_7 {a b c d e f g h : D} {r : List D} {S : Sto} : idxD (.tup (a :: b :: c :: d :: e :: f :: g :: h :: r)) (.int 7) S = .ok h S := idx_S (k := 7) seq_tup rfl
theorem lst_7 {a b c d e f g h : D} {r : List D} {S : Sto} : idxD (.lst (a :: b :: c :: d :: e :: f :: g :: h :: r)) (.int 7) S = .ok h S := idx_S (k := 7) seq_lst rfl
theorem c_eq_self {S : Sto} {d : D} {n : Nat} (h : D.dep d = some n) (hn : n ≤ 60) : cmpD .Eq d d S = .ok (.bl true) S := by simp only [cmpD, eqB_self h hn, optR_some, bind_ok]
theorem c_ne_self {S : Sto} {d : D} {n : Nat} (h : D.dep d = some n) (hn : n ≤ 60) : cmpD .NotEq d d S = .ok (.bl false) S := by simp only [cmpD, eqB_self h hn, optR_some, bind_ok, Bool.not_true]
theorem rf_0 {a : D} {r : List D} {S X : Sto} : idxD (.ref S.length) (.int 0) (S ++ .lst (a :: r) :: X) = .ok a (S ++ .lst (a :: r) :: X) := idx_S (k := 0) seq_new rfl
theorem sw_0 {a v : D} {r : List D} {S X : Sto} : setD (.ref S.length) (.int 0) v (S ++ .lst (a :: r) :: X) = .ok () (S ++ .lst (v :: r) :: X) := set_new (k := 0) (xs := a :: r) (by simp)
theorem rf_1 {a b : D} {r : List D} {S X : Sto} : idxD (.ref S.length) (.int 1) (S ++ .lst (a :: b :: r) :: X) = .ok b (S ++ .lst (a :: b :: r) :: X) := idx_S (k := 1) seq_new rfl
theorem sw_1 {a b v : D} {r : List D} {S X : Sto} : setD (.ref S.length) (.int 1) v (S ++ .lst (a :: b :: r) :: X) = .ok () (S ++ .lst (a :: v :: r) :: X) := set_new (k := 1) (xs := a :: b :: r) (by simp)
theorem rf_2 {a b c : D} {r : List D} {S X : Sto} : idxD (.ref S.length) (.int 2) (S ++ .lst (a :: b :: c :: r) :: X) = .ok c (S ++ .lst (a :: b :: c :: r) :: X) := idx_S (k := 2) seq_new rfl
theorem sw_2 {a b c v : D} {r : List D} {S X : Sto} : setD (.ref S.length) (.int 2) v (S ++ .lst (a :: b :: c :: r) :: X) = .ok () (S ++ .lst (a :: b :: v :: r) :: X) := set_new (k := 2) (xs := a :: b :: c :: r) (by simp)
theorem rf_3 {a b c d : D} {r : List D} {S X : Sto} : idxD (.ref S.length) (.int 3) (S ++ .lst (a :: b :: c :: d :: r) :: X) = .ok d (S ++ .lst (a :: b :: c :: d :: r) :: X) := idx_S (k := 3) seq_new rfl
theorem sw_3 {a b c d v : D} {r : List D} {S X : Sto} : setD (.ref S.length) (.int 3) v (S ++ .lst (a :: b :: c :: d :: r) :: X) = .ok () (S ++ .lst (a :: b :: c :: v :: r) :: X) := set_new (k := 3) (xs := a :: b :: c :: d :: r) (by simp)
theorem rf_4 {a b c d e : D} {r : List D} {S X : Sto} : idxD (.ref S.length) (.int 4) (S ++ .lst (a :: b :: c :: d :: e :: r) :: X) = .ok e (S ++ .lst (a :: b :: c :: d :: e :: r) :: X) := idx_S (k := 4) seq_new rfl
theorem sw_4 {a b c d e v : D} {r : List D} {S X : Sto} : setD (.ref S.length) (.int 4) v (S ++ .lst (a :: b :: c :: d :: e :: r) :: X) = .ok () (S ++ .lst (a :: b :: c :: d :: v :: r) :: X) := set_new (k := 4) (xs := a :: b :: c :: d :: e :: r) (by simp)
theorem rf_5 {a b c d e f : D} {r : List D} {S X : Sto} : idxD (.ref S.length) (.int 5) (S ++ .lst (a :: b :: c :: d :: e :: f :: r) :: X) = .ok f (S ++ .lst (a :: b :: c :: d :: e :: f :: r) :: X) := idx_S (k := 5) seq_new rfl
theorem sw_5 {a b c d e f v : D} {r : List D} {S X : Sto} : setD (.ref S.length) (.int 5) v (S ++ .lst (a :: b :: c :: d :: e :: f :: r) :: X) = .ok () (S ++ .lst (a :: b :: c :: d :: e :: v :: r) :: X) := set_new (k := 5) (xs := a :: b :: c :: d :: e :: f :: r) (by simp)
theorem rf_6 {a b c d e f g : D} {r : List D} {S X : Sto} : idxD (.ref S.length) (.int 6) (S ++ .lst (a :: b :: c :: d :: e :: f :: g :: r) :: X) = .ok g (S ++ .lst (a :: b :: c :: d :: e :: f :: g :: r) :: X) := idx_S (k := 6) seq_new rfl
theorem sw_6 {a b c d e f g v : D} {r : List D} {S X : Sto} : setD (.ref S.length) (.int 6) v (S ++ .lst (a :: b :: c :: d :: e :: f :: g :: r) :: X) = .ok () (S ++ .lst (a :: b :: c :: d :: e :: f :: v :: r) :: X) := set_new (k := 6) (xs := a :: b :: c :: d :: e :: f :: g :: r) (by simp)
theorem rf_7 {a b c d e f g h : D} {r : List D} {S X : Sto} : idxD (.ref S.length) (.int 7) (S ++ .lst (a :: b :: c :: d :: e :: f :: g :: h :: r) :: X) = .ok h (S ++ .lst (a :: b :: c :: d :: e :: f :: g :: h :: r) :: X) := idx_S (k := 7) seq_new rfl
theorem sw_7 {a b c d e f g h v : D} {r : List D} {S X : Sto} : setD (.ref S.length) (.int 7) v (S ++ .lst (a :: b :: c :: d :: e :: f :: g :: h :: r) :: X) = .ok () (S ++ .lst (a :: b :: c :: d :: e :: f :: g :: v :: r) :: X) := set_new (k := 7) (xs := a :: b :: c :: d :: e :: f :: g :: h :: r) (by simp)
def endK (Q : D → Sto → Prop) : Fl → Sto → Prop := fun fl S' => match fl with
  | .next _ => Q .non S'
  | .ret d => Q d S'
  | _ => False
theorem endK_ret {Q : D → Sto → Prop} {d : D} {S' : Sto} : endK Q (.ret d) S' = Q d S' := by cases S' <;> rfl
theorem endK_next {Q : D → Sto → Prop} {σ : Sl} {S' : Sto} : endK Q (.next σ) S' = Q .non S' := by cases S' <;> rfl
theorem W_runK {T : Tab} {P : Nat → Option CF} {k f : Nat} {cf : CF} {ds : List D} {S : Sto} {Q : D → Sto → Prop} (hP : P f = some cf) (hk : cf.keep = true) (hp : ds.length = cf.ps)
    (h : W (evB T (sem T P k) cf.body (ds.map some ++ List.replicate (cf.n - ds.length) none) S) (endK Q)) : W (sem T P (k + 1) f ds S) Q := by
  rw [sem_s hP]
  unfold runF
  rw [if_pos hp, hk]
  obtain ⟨fl, S', e, q⟩ := h.out
  rw [e]
  cases fl with
  | next σ => show W (.ok .non S') Q; rw [W_ok]; exact q
  | ret d => show W (.ok d S') Q; rw [W_ok]; exact q
  | brk σ => exact q.elim
  | cnt σ => exact q.elim
section
variable {T : Tab} {S : Sto} {Q : D → Sto → Prop}
theorem sfld_new {c f : Nat} {vs : List D} {v : D} {X : Sto} (h : fldIx (T.flds c) f = some vs.length) (hl : vs.length < 900) : sfldD T f (.ref S.length) v (S ++ .ins c vs :: X) = .ok () (S ++ .ins c (vs ++ [v]) :: X) := by
  show (match (S ++ O.ins c vs :: X)[S.length]? with | some (.ins c vs) => _ | _ => _) = _
  rw [get_new]
  simp only [h, Nat.lt_irrefl, false_and, if_false, true_and, hl, if_true]
  simp
theorem fld_obj {c f k : Nat} {vs : List D} {d : D} (h : fldIx (T.flds c) f = some k) (hd : vs[k]? = some d) : fldD T f (.obj c vs) S = .ok d S := by
  show optR S (Option.bind (some (c, vs)) fun p => (fldIx (T.flds p.1) f).bind fun k => p.2[k]?) = _
  rw [Option.bind_some]
  simp only [h, Option.bind_some, hd]; rfl
theorem frz_ins {c : Nat} {vs : List D} (p : D.pures vs = true) : W (shut S (.ref S.length) (S ++ [.ins c vs])) Q = Q (.obj c vs) S := by
  have e : rd (S ++ [.ins c vs]) S.length (S ++ [O.ins c vs]).length 6 S.length = some (.obj c vs) := by
    rw [rd, if_neg (by omega), if_neg (by simp), get_new]
    simp only [D.mapRs_pure _ vs p]
    rfl
  have : shut S (.ref S.length) (S ++ [.ins c vs]) = .ok (.obj c vs) S := by
    unfold shut
    rw [D.mapR, e, (Gr.app S _).conv]
    simp
  rw [this, W_ok]
theorem end_ins {c : Nat} {vs : List D} (p : D.pures vs = true) : W (shutK S (.ref S.length) (S ++ [.ins c vs])) Q = Q (.ref S.length) (S ++ [.ins c vs]) := by
  have : shutK S (.ref S.length) (S ++ [.ins c vs]) = .ok (.ref S.length) (S ++ [.ins c vs]) := by
    unfold shutK
    show (if S.length < S.length then shut S (.ref S.length) (S ++ [.ins c vs]) else _) = _
    rw [if_neg (by omega), get_new]
    simp only [Option.bind_some]
    rw [O.mapR_pure _ (.ins c vs) p, (Gr.app S _).conv]
    simp
  rw [this, W_ok]
end
/-- a new list whose first item is a list made before it -/
theorem end_nest {S S' : Sto} {xs ys : List D} {Q : D → Sto → Prop} (g : Gr S S') (l : S.length = S'.length) (p : D.pures xs = true) (py : D.pures ys = true) :
    W (shutK S (.ref (S' ++ [O.lst xs]).length) (S' ++ [O.lst xs] ++ [.lst (.ref S'.length :: ys)])) Q = Q (.ref S'.length) (S' ++ [.lst (.lst xs :: ys)]) := by
  have e : shutK S (.ref (S' ++ [O.lst xs]).length) (S' ++ [O.lst xs] ++ [.lst (.ref S'.length :: ys)]) = .ok (.ref S'.length) (S' ++ [.lst (.lst xs :: ys)]) := by
    show (if (S' ++ [O.lst xs]).length < S.length then _ else _) = _
    rw [if_neg (by simp; omega)]
    have g1 : (S' ++ [O.lst xs] ++ [O.lst (.ref S'.length :: ys)])[(S' ++ [O.lst xs]).length]? = some (O.lst (.ref S'.length :: ys)) := get_new
    rw [g1, Option.bind_some]
    have r : rd (S' ++ [O.lst xs] ++ [O.lst (.ref S'.length :: ys)]) S.length (S' ++ [O.lst xs]).length 6 S'.length = some (.lst xs) :=
      rd_new (by simp) (by omega) (by simp) p
    have m : O.mapR (rd (S' ++ [O.lst xs] ++ [O.lst (.ref S'.length :: ys)]) S.length (S' ++ [O.lst xs]).length 6) (O.lst (.ref S'.length :: ys)) = some (.lst (.lst xs :: ys)) := by
      simp only [O.mapR, D.mapRs, D.mapR, r, D.mapRs_pure _ ys py, Option.map_some, Option.bind_some]
    rw [m, (g.push.push).conv, l]
    simp
  rw [e, W_ok]
/-- for j in range(n): if p fails: return False -/
theorem W_all {n : Nat} {p : Nat → Bool} {f : D → Sl → Sto → R Fl} {σ : Sl} {S : Sto} {Q : Fl → Sto → Prop} (I : Sl → Prop) (h0 : I σ)
    (step : ∀ j σ, j < n → I σ → W (f (.int (j : Int)) σ S) fun fl S' => S' = S ∧ if p j = true then ∃ σ', fl = .next σ' ∧ I σ' else fl = .ret (.bl false))
    (ht : (List.range n).all p = true → ∀ σ, I σ → Q (.next σ) S) (hf : (List.range n).all p = false → Q (.ret (.bl false)) S) : W (forL (.rg 0 n) f (fuelOf S (.rg 0 n)) 0 σ S) Q := by
  refine W_forR0 (fun j σ S' => S' = S ∧ I σ ∧ ∀ i, i < j → p i = true) ⟨rfl, h0, fun i hi => by omega⟩ (fun j σ S' hj h => ?_) (fun σ S' h => ?_)
  · obtain ⟨rfl, hI, ha⟩ := h
    refine (step j σ hj hI).mono fun fl S2 q => ?_
    obtain ⟨rfl, q⟩ := q
    by_cases hp : p j = true
    · rw [if_pos hp] at q
      obtain ⟨σ', rfl, q⟩ := q
      rw [stepW_next]
      refine ⟨rfl, q, fun i hi => ?_⟩
      rcases Nat.lt_or_ge i j with g | g
      · exact ha i g
      · rw [show i = j by omega]; exact hp
    · rw [if_neg hp] at q
      subst q
      rw [stepW_ret]
      apply hf
      rw [List.all_eq_false]
      exact ⟨j, by simp [hj], hp⟩
  · obtain ⟨rfl, hI, ha⟩ := h
    apply ht _ σ hI
    rw [List.all_eq_true]
    intro i hi
    exact ha i (by simpa using hi)
/-! ### masks by their bits -/
theorem or_add {x : Int} {n : Nat} (h0 : 0 ≤ x) (h : x < 2 ^ n) : Builtin.bitOr x (1 * 2 ^ n) = x + 1 * 2 ^ n := by
  rw [PyProof.Rows.bitOr_and]
  have : Builtin.bitAnd x (1 * 2 ^ n) = 0 := by
    apply ib_ext
    intro k
    rw [ib_and, ib_pow, ib_0]
    by_cases hk : k = n
    · subst hk; rw [ib_ge h0 h (Nat.le_refl _)]; rfl
    · simp [hk]
  omega
theorem eq0_iff {x : Int} : x = 0 ↔ ∀ k, ib x k = false := ⟨fun h k => by rw [h, ib_0], fun h => ib_ext fun k => by rw [h k, ib_0]⟩
theorem sub_iff {x y : Int} : Builtin.bitAnd x y = y ↔ ∀ k, ib y k = true → ib x k = true := by
  constructor
  · intro h k hk
    rw [← h, ib_and, Bool.and_eq_true] at hk
    exact hk.1
  · intro h
    apply ib_ext
    intro k
    rw [ib_and]
    cases hy : ib y k with
    | false => simp
    | true => rw [h k hy]; rfl
/-- the number of a set of bits below n -/
def ofB (p : Nat → Bool) : Nat → Int
  | 0 => 0
  | n + 1 => if p n then Builtin.bitOr (ofB p n) (1 * 2 ^ n) else ofB p n
theorem ib_ofB (p : Nat → Bool) (k : Nat) : ∀ n, ib (ofB p n) k = (decide (k < n) && p k)
  | 0 => by simp [ofB, ib_0]
  | n + 1 => by
    rw [ofB]
    by_cases hp : p n = true
    · rw [if_pos hp, ib_or, ib_pow, ib_ofB p k n]
      by_cases h : k = n
      · subst h; simp [hp]
      · by_cases h2 : k < n
        · simp [h, h2, show k < n + 1 by omega]
        · simp [h, h2, show ¬ k < n + 1 by omega]
    · rw [if_neg hp, ib_ofB p k n]
      by_cases h : k = n
      · subst h; simp [hp]
      · by_cases h2 : k < n
        · simp [h2, show k < n + 1 by omega]
        · simp [h2, show ¬ k < n + 1 by omega]
theorem ofB_rg' (p : Nat → Bool) (n : Nat) : 0 ≤ ofB p n ∧ ofB p n < 2 ^ n := ib_all_neg n fun k hk => by rw [ib_ofB]; simp [show ¬ k < n by omega]
theorem ofB_add (p : Nat → Bool) (n : Nat) : ofB p (n + 1) = if p n = true then ofB p n + 1 * 2 ^ n else ofB p n := by
  rw [ofB]
  split
  · exact or_add (ofB_rg' p n).1 (ofB_rg' p n).2
  · rfl
theorem ones_ofB (n : Nat) : ofB (fun _ => true) n = 1 * 2 ^ n - 1 := by
  induction n with
  | zero => rfl
  | succ n ih =>
    rw [ofB_add, if_pos rfl, ih, Int.pow_succ]
    omega
theorem ib_ones {n k : Nat} : ib (1 * 2 ^ n - 1) k = decide (k < n) := by rw [← ones_ofB, ib_ofB]; simp
theorem ofB_rg (p : Nat → Bool) (n : Nat) : 0 ≤ ofB p n ∧ ofB p n < 2 ^ n := ib_all_neg n fun k hk => by rw [ib_ofB]; simp [show ¬ k < n by omega]
end Py
namespace K19
open PySem PySem.Spec PyProof.Rows L2 Py
/-! ### the text -/
def topS (i : Nat) : PySem.Stmt := PySem.Challenge.pw_cheapestornone_k19_useless_and_dominatin.main.body.getD i (.Pass ⟨0, 0, 0, 0⟩)
/-- useless -/
def c0 : CF := ⟨4, 2, false, (.cons (.tset [2, 3] (.slot 1))
    (.cons (.ret (.and (.cmp .Eq (.bin .BitAnd (.bin .BitAnd (.fld (.slot 0) 6) (.slot 2)) (.inv (.fld (.slot 0) 4))) (.int 0)) (.cmp .Eq (.bin .BitAnd (.bin .BitAnd (.fld (.slot 0) 7) (.slot 3)) (.inv (.fld (.slot 0) 5))) (.int 0))))
    .nil))⟩
abbrev n0 : List Str := ["case", "masks", "asked_for", "asked_against"]
abbrev p0 : List Str := ["case", "masks"]
abbrev s0 : PySem.Stmt := topS 1
/-- keeps_asked_for -/
def c1 : CF := ⟨5, 3, false, (.cons (.set 3 (.bin .BitAnd (.fld (.slot 1) 6) (.inv (.bin .BitOr (.fld (.slot 0) 6) (.bin .BitAnd (.fld (.slot 1) 4) (.inv (.fld (.slot 0) 7)))))))
    (.cons (.set 4 (.bin .BitAnd (.fld (.slot 0) 7) (.inv (.bin .BitOr (.bin .BitOr (.fld (.slot 1) 6) (.fld (.slot 1) 7)) (.fld (.slot 1) 5)))))
    (.cons (.ret (.cmp .Eq (.bin .BitAnd (.slot 2) (.bin .BitOr (.slot 3) (.slot 4))) (.int 0)))
    .nil)))⟩
abbrev n1 : List Str := ["by", "case", "asked_for", "gained", "lost"]
abbrev p1 : List Str := ["by", "case", "asked_for"]
abbrev s1 : PySem.Stmt := topS 2
/-- keeps_asked_against -/
def c2 : CF := ⟨5, 3, false, (.cons (.set 3 (.bin .BitAnd (.fld (.slot 0) 6) (.inv (.bin .BitOr (.fld (.slot 1) 6) (.bin .BitAnd (.fld (.slot 1) 4) (.inv (.fld (.slot 1) 7)))))))
    (.cons (.set 4 (.bin .BitAnd (.fld (.slot 1) 7) (.inv (.bin .BitOr (.bin .BitOr (.fld (.slot 0) 6) (.fld (.slot 0) 7)) (.fld (.slot 1) 5)))))
    (.cons (.ret (.cmp .Eq (.bin .BitAnd (.slot 2) (.bin .BitOr (.slot 3) (.slot 4))) (.int 0)))
    .nil)))⟩
abbrev n2 : List Str := ["by", "case", "asked_against", "gained", "lost"]
abbrev p2 : List Str := ["by", "case", "asked_against"]
abbrev s2 : PySem.Stmt := topS 3
/-- dominates -/
def c3 : CF := ⟨5, 3, false, (.cons (.tset [3, 4] (.slot 2))
    (.cons (.ite (.or (.val (.cmp .Gt (.fld (.slot 0) 3) (.fld (.slot 1) 3))) (.or (.val (.cmp .NotEq (.bin .BitAnd (.fld (.slot 0) 4) (.inv (.fld (.slot 1) 4))) (.int 0))) (.val (.cmp .NotEq (.bin .BitAnd (.fld (.slot 0) 5) (.inv (.fld (.slot 1) 5))) (.int 0)))))
    (.cons (.ret (.bl false))
    .nil)
    .nil)
    (.cons (.ret (.and (.call 1 (.cons (.slot 0) (.cons (.slot 1) (.cons (.slot 3) .nil)))) (.call 2 (.cons (.slot 0) (.cons (.slot 1) (.cons (.slot 4) .nil))))))
    .nil)))⟩
abbrev n3 : List Str := ["by", "case", "masks", "asked_for", "asked_against"]
abbrev p3 : List Str := ["by", "case", "masks"]
abbrev s3 : PySem.Stmt := topS 4
/-- Case.__init__ -/
def c4 : CF := ⟨9, 9, true, (.cons (.sfld (.slot 0) 0 (.slot 1))
    (.cons (.sfld (.slot 0) 1 (.bi .tuple (.cons (.slot 2) .nil)))
    (.cons (.sfld (.slot 0) 2 (.slot 3))
    (.cons (.sfld (.slot 0) 3 (.slot 4))
    (.cons (.sfld (.slot 0) 4 (.slot 5))
    (.cons (.sfld (.slot 0) 5 (.slot 6))
    (.cons (.sfld (.slot 0) 6 (.slot 7))
    (.cons (.sfld (.slot 0) 7 (.slot 8))
    .nil))))))))⟩
abbrev n4 : List Str := ["self", "name", "things", "signs", "cost", "needs", "bars", "adds", "drops"]
abbrev p4 : List Str := ["self", "name", "things", "signs", "cost", "needs", "bars", "adds", "drops"]
abbrev s4 : PySem.Stmt := inClass (topS 6) 0
/-- _law_tape -/
def c5 : CF := ⟨7, 1, false, (.cons (.set 1 (.lst .nil))
    (.cons (.set 2 (.int 7))
    (.cons (.for_ (.nm 3) (.rng (.bi .min2 (.cons (.bi .len (.cons (.slot 0) .nil)) (.cons (.int 63) .nil))))
    (.cons (.set 4 (.bi .abs (.cons (.bi .int (.cons (.idx (.slot 0) (.slot 3)) .nil)) .nil)))
    (.cons (.set 2 (.bin .Mod (.bi .int (.cons (.bin .Add (.bin .Add (.bin .Mult (.slot 2) (.int 48271)) (.slot 4)) (.int 13)) .nil)) (.int 2147483647)))
    (.cons (.ite (.val (.cmp .GtE (.slot 4) (.bin .Pow (.int 10) (.int 18))))
    (.cons (.for_ (.nm 5) (.rng (.int 30))
    (.cons (.ite (.val (.cmp .Gt (.slot 4) (.int 0)))
    (.cons (.expr (.met .append (.slot 1) (.cons (.bin .Mod (.bi .int (.cons (.slot 4) .nil)) (.int 9973)) .nil)))
    (.cons (.set 4 (.bin .FloorDiv (.slot 4) (.int 9973)))
    .nil))
    .nil)
    .nil))
    .nil)
    (.cons (.for_ (.nm 5) (.rng (.int 6))
    (.cons (.set 6 (.bin .Mod (.bi .int (.cons (.bin .Add (.bin .Add (.bin .Add (.bin .Mult (.slot 4) (.int 48271)) (.bin .Mult (.slot 3) (.int 69621))) (.bin .Mult (.slot 5) (.int 16807))) (.int 5)) .nil)) (.int 2147483647)))
    (.cons (.expr (.met .append (.slot 1) (.cons (.bin .Mod (.bi .int (.cons (.bin .Add (.bin .Mult (.slot 6) (.slot 6)) (.slot 5)) .nil)) (.int 2147483629)) .nil)))
    .nil)))
    .nil))
    .nil))))
    (.cons (.ret (.lst (.cons (.int 0) (.cons (.slot 1) (.cons (.slot 2) .nil)))))
    .nil))))⟩
abbrev n5 : List Str := ["script", "row", "seed", "at", "cell", "k", "one"]
abbrev p5 : List Str := ["script"]
abbrev s5 : PySem.Stmt := topS 8
/-- _law_take -/
def c6 : CF := ⟨5, 2, false, (.cons (.set 2 (.idx (.slot 0) (.int 0)))
    (.cons (.sub (.slot 0) (.int 0) (.bin .Add (.slot 2) (.int 1)))
    (.cons (.ite (.val (.cmp .Lt (.slot 2) (.bi .len (.cons (.idx (.slot 0) (.int 1)) .nil))))
    (.cons (.ret (.bin .Mod (.bi .int (.cons (.idx (.idx (.slot 0) (.int 1)) (.slot 2)) .nil)) (.slot 1)))
    .nil)
    .nil)
    (.cons (.set 3 (.bin .Mod (.bi .int (.cons (.bin .Add (.idx (.slot 0) (.int 2)) (.bin .Mult (.slot 2) (.int 48271))) .nil)) (.int 2147483647)))
    (.cons (.set 4 (.bin .Mod (.bi .int (.cons (.bin .Add (.bin .Add (.bin .Mult (.slot 3) (.int 69621)) (.bin .Mult (.slot 2) (.slot 2))) (.int 3)) .nil)) (.int 2147483629)))
    (.cons (.ret (.bin .Mod (.bin .Mod (.bi .int (.cons (.bin .Add (.bin .Mult (.slot 4) (.slot 4)) (.slot 3)) .nil)) (.int 1000003)) (.slot 1)))
    .nil))))))⟩
abbrev n6 : List Str := ["tape", "size", "at", "one", "two"]
abbrev p6 : List Str := ["tape", "size"]
abbrev s6 : PySem.Stmt := topS 9
/-- _law_cost -/
def c7 : CF := ⟨2, 1, false, (.cons (.set 1 (.call 6 (.cons (.slot 0) (.cons (.int 9) .nil))))
    (.cons (.ite (.val (.cmp .Eq (.slot 1) (.int 0)))
    (.cons (.ret (.int 0))
    .nil)
    .nil)
    (.cons (.ite (.val (.cmp .Eq (.slot 1) (.int 1)))
    (.cons (.ret (.bin .Add (.bin .Pow (.int 10) (.int 39)) (.call 6 (.cons (.slot 0) (.cons (.int 9973) .nil)))))
    .nil)
    .nil)
    (.cons (.ret (.bin .Add (.int 1) (.call 6 (.cons (.slot 0) (.cons (.int 9) .nil)))))
    .nil))))⟩
abbrev n7 : List Str := ["tape", "way"]
abbrev p7 : List Str := ["tape"]
abbrev s7 : PySem.Stmt := topS 10
/-- _law_same -/
def c8 : CF := ⟨3, 2, false, (.cons (.ite (.val (.cmp .Is (.slot 1) .non))
    (.cons (.ret (.cmp .Is (.slot 0) .non))
    .nil)
    .nil)
    (.cons (.ite (.val (.bi (.isinst "bool") (.cons (.slot 1) .nil)))
    (.cons (.ret (.and (.bi (.isinst "bool") (.cons (.slot 0) .nil)) (.cmp .Eq (.slot 0) (.slot 1))))
    .nil)
    .nil)
    (.cons (.ite (.val (.bi (.isinst "int") (.cons (.slot 1) .nil)))
    (.cons (.ret (.and (.bi (.isinst "int") (.cons (.slot 0) .nil)) (.and (.not (.bi (.isinst "bool") (.cons (.slot 0) .nil))) (.cmp .Eq (.slot 0) (.slot 1)))))
    .nil)
    .nil)
    (.cons (.ite (.val (.bi (.isinst "str") (.cons (.slot 1) .nil)))
    (.cons (.ret (.and (.bi (.isinst "str") (.cons (.slot 0) .nil)) (.cmp .Eq (.slot 0) (.slot 1))))
    .nil)
    .nil)
    (.cons (.ite (.or (.and (.val (.bi (.isinst "tuple") (.cons (.slot 1) .nil))) (.not (.val (.bi (.isinst "tuple") (.cons (.slot 0) .nil))))) (.and (.val (.bi (.isinst "list") (.cons (.slot 1) .nil))) (.not (.val (.bi (.isinst "list") (.cons (.slot 0) .nil))))))
    (.cons (.ret (.bl false))
    .nil)
    .nil)
    (.cons (.ite (.val (.cmp .NotEq (.bi .len (.cons (.slot 0) .nil)) (.bi .len (.cons (.slot 1) .nil))))
    (.cons (.ret (.bl false))
    .nil)
    .nil)
    (.cons (.for_ (.nm 2) (.rng (.bi .len (.cons (.slot 1) .nil)))
    (.cons (.ite (.not (.val (.call 8 (.cons (.idx (.slot 0) (.slot 2)) (.cons (.idx (.slot 1) (.slot 2)) .nil)))))
    (.cons (.ret (.bl false))
    .nil)
    .nil)
    .nil))
    (.cons (.ret (.bl true))
    .nil))))))))⟩
abbrev n8 : List Str := ["found", "due", "k"]
abbrev p8 : List Str := ["found", "due"]
abbrev s8 : PySem.Stmt := topS 11
/-- _law_mask -/
def c9 : CF := ⟨5, 3, false, (.cons (.set 3 (.int 0))
    (.cons (.for_ (.nm 4) (.rng (.slot 1))
    (.cons (.ite (.val (.cmp .Eq (.call 6 (.cons (.slot 0) (.cons (.slot 2) .nil))) (.int 0)))
    (.cons (.set 3 (.bin .Add (.slot 3) (.bin .LShift (.int 1) (.slot 4))))
    .nil)
    .nil)
    .nil))
    (.cons (.ret (.slot 3))
    .nil)))⟩
abbrev n9 : List Str := ["tape", "many", "odds", "mask", "k"]
abbrev p9 : List Str := ["tape", "many", "odds"]
abbrev s9 : PySem.Stmt := topS 12
/-- _law_can -/
def c10 : CF := ⟨2, 2, false, (.cons (.ret (.and (.cmp .Eq (.bin .BitAnd (.slot 1) (.idx (.slot 0) (.int 1))) (.idx (.slot 0) (.int 1))) (.cmp .Eq (.bin .BitAnd (.slot 1) (.idx (.slot 0) (.int 2))) (.int 0))))
    .nil)⟩
abbrev n10 : List Str := ["own", "state"]
abbrev p10 : List Str := ["own", "state"]
abbrev s10 : PySem.Stmt := topS 13
/-- _law_next -/
def c11 : CF := ⟨2, 2, false, (.cons (.ret (.bin .BitOr (.bin .BitAnd (.slot 1) (.inv (.idx (.slot 0) (.int 4)))) (.idx (.slot 0) (.int 3))))
    .nil)⟩
abbrev n11 : List Str := ["own", "state"]
abbrev p11 : List Str := ["own", "state"]
abbrev s11 : PySem.Stmt := topS 14
/-- _law_covers -/
def c12 : CF := ⟨3, 3, false, (.cons (.ret (.and (.cmp .Eq (.bin .BitAnd (.bin .BitAnd (.slot 2) (.idx (.slot 0) (.int 0))) (.inv (.slot 1))) (.int 0)) (.cmp .Eq (.bin .BitAnd (.bin .BitAnd (.slot 1) (.idx (.slot 0) (.int 1))) (.inv (.slot 2))) (.int 0))))
    .nil)⟩
abbrev n12 : List Str := ["masks", "big", "small"]
abbrev p12 : List Str := ["masks", "big", "small"]
abbrev s12 : PySem.Stmt := topS 15
/-- _law_after -/
def c13 : CF := ⟨2, 2, false, (.cons (.ite (.val (.cmp .Eq (.slot 1) (.int 1)))
    (.cons (.ret (.int 1))
    .nil)
    .nil)
    (.cons (.ite (.val (.cmp .Eq (.slot 1) (.int 2)))
    (.cons (.ret (.int 0))
    .nil)
    .nil)
    (.cons (.ret (.slot 0))
    .nil)))⟩
abbrev n13 : List Str := ["stands", "effect"]
abbrev p13 : List Str := ["stands", "effect"]
abbrev s13 : PySem.Stmt := topS 16
/-- _law_fits -/
def c14 : CF := ⟨7, 4, false, (.cons (.for_ (.nm 4) (.val (.frz (.lst (.cons (.int 0) (.cons (.int 1) .nil)))))
    (.cons (.ite (.or (.val (.cmp .Eq (.idx (.slot 0) (.int 0)) (.int 0))) (.val (.cmp .Eq (.cmp .Eq (.idx (.slot 0) (.int 0)) (.int 1)) (.cmp .Eq (.slot 4) (.int 1)))))
    (.cons (.ite (.and (.val (.cmp .NotEq (.idx (.slot 1) (.int 0)) (.int 0))) (.val (.cmp .NotEq (.cmp .Eq (.idx (.slot 1) (.int 0)) (.int 1)) (.cmp .Eq (.slot 4) (.int 1)))))
    (.cons (.ret (.bl false))
    .nil)
    .nil)
    (.cons (.set 5 (.call 13 (.cons (.slot 4) (.cons (.idx (.slot 0) (.int 1)) .nil))))
    (.cons (.set 6 (.call 13 (.cons (.slot 4) (.cons (.idx (.slot 1) (.int 1)) .nil))))
    (.cons (.ite (.or (.and (.val (.slot 2)) (.val (.cmp .Gt (.slot 5) (.slot 6)))) (.and (.val (.slot 3)) (.val (.cmp .Gt (.slot 6) (.slot 5)))))
    (.cons (.ret (.bl false))
    .nil)
    .nil)
    .nil))))
    .nil)
    .nil))
    (.cons (.ret (.bl true))
    .nil))⟩
abbrev n14 : List Str := ["own", "other", "wanted", "barred", "stands", "small", "big"]
abbrev p14 : List Str := ["own", "other", "wanted", "barred"]
abbrev s14 : PySem.Stmt := topS 17
/-- _law_signs -/
def c15 : CF := ⟨1, 1, false, (.cons (.ret (.tup (.cons (.idx (.frz (.lst (.cons (.int 0) (.cons (.int 0) (.cons (.int 1) (.cons (.int 1) (.cons (.int 2) .nil))))))) (.call 6 (.cons (.slot 0) (.cons (.int 5) .nil)))) (.cons (.idx (.frz (.lst (.cons (.int 0) (.cons (.int 1) (.cons (.int 1) (.cons (.int 2) (.cons (.int 2) .nil))))))) (.call 6 (.cons (.slot 0) (.cons (.int 5) .nil)))) .nil))))
    .nil)⟩
abbrev n15 : List Str := ["tape"]
abbrev p15 : List Str := ["tape"]
abbrev s15 : PySem.Stmt := topS 18
/-- _law_beside -/
def c16 : CF := ⟨7, 4, false, (.cons (.set 4 (.lst .nil))
    (.cons (.for_ (.nm 5) (.rng (.int 3))
    (.cons (.for_ (.nm 6) (.rng (.int 3))
    (.cons (.ite (.val (.call 14 (.cons (.slot 1) (.cons (.tup (.cons (.slot 5) (.cons (.slot 6) .nil))) (.cons (.slot 2) (.cons (.slot 3) .nil))))))
    (.cons (.expr (.met .append (.slot 4) (.cons (.tup (.cons (.slot 5) (.cons (.slot 6) .nil))) .nil)))
    .nil)
    .nil)
    .nil))
    .nil))
    (.cons (.ite (.val (.cmp .Eq (.call 6 (.cons (.slot 0) (.cons (.int 8) .nil))) (.int 0)))
    (.cons (.ret (.call 15 (.cons (.slot 0) .nil)))
    .nil)
    .nil)
    (.cons (.ret (.idx (.slot 4) (.call 6 (.cons (.slot 0) (.cons (.bi .len (.cons (.slot 4) .nil)) .nil)))))
    .nil))))⟩
abbrev n16 : List Str := ["tape", "own", "wanted", "barred", "good", "ask", "effect"]
abbrev p16 : List Str := ["tape", "own", "wanted", "barred"]
abbrev s16 : PySem.Stmt := topS 19
/-- _law_case_of -/
def c17 : CF := ⟨4, 2, false, (.cons (.set 2 (.lst (.cons (.int 0) (.cons (.int 0) (.cons (.int 0) (.cons (.int 0) .nil))))))
    (.cons (.for_ (.nm 3) (.rng (.bi .len (.cons (.slot 1) .nil)))
    (.cons (.ite (.val (.cmp .Gt (.idx (.idx (.slot 1) (.slot 3)) (.int 0)) (.int 0)))
    (.cons (.sub (.slot 2) (.bin .Sub (.idx (.idx (.slot 1) (.slot 3)) (.int 0)) (.int 1)) (.bin .Add (.idx (.slot 2) (.bin .Sub (.idx (.idx (.slot 1) (.slot 3)) (.int 0)) (.int 1))) (.bin .LShift (.int 1) (.slot 3))))
    .nil)
    .nil)
    (.cons (.ite (.val (.cmp .Gt (.idx (.idx (.slot 1) (.slot 3)) (.int 1)) (.int 0)))
    (.cons (.sub (.slot 2) (.bin .Add (.idx (.idx (.slot 1) (.slot 3)) (.int 1)) (.int 1)) (.bin .Add (.idx (.slot 2) (.bin .Add (.idx (.idx (.slot 1) (.slot 3)) (.int 1)) (.int 1))) (.bin .LShift (.int 1) (.slot 3))))
    .nil)
    .nil)
    .nil)))
    (.cons (.ret (.tup (.cons (.slot 0) (.cons (.idx (.slot 2) (.int 0)) (.cons (.idx (.slot 2) (.int 1)) (.cons (.idx (.slot 2) (.int 2)) (.cons (.idx (.slot 2) (.int 3)) .nil)))))))
    .nil)))⟩
abbrev n17 : List Str := ["cost", "rows", "masks", "k"]
abbrev p17 : List Str := ["cost", "rows"]
abbrev s17 : PySem.Stmt := topS 20
/-- _law_placed -/
def c18 : CF := ⟨4, 2, false, (.cons (.set 2 (.int 0))
    (.cons (.for_ (.nm 3) (.rng (.bi .len (.cons (.slot 1) .nil)))
    (.cons (.ite (.val (.cmp .Eq (.bin .BitAnd (.bin .RShift (.slot 0) (.slot 3)) (.int 1)) (.int 1)))
    (.cons (.set 2 (.bin .BitOr (.slot 2) (.bin .LShift (.int 1) (.idx (.slot 1) (.slot 3)))))
    .nil)
    .nil)
    .nil))
    (.cons (.ret (.slot 2))
    .nil)))⟩
abbrev n18 : List Str := ["mask", "places", "total", "k"]
abbrev p18 : List Str := ["mask", "places"]
abbrev s18 : PySem.Stmt := topS 21
/-- _law_room -/
def c19 : CF := ⟨8, 2, false, (.cons (.ite (.val (.cmp .Eq (.call 6 (.cons (.slot 0) (.cons (.int 2) .nil))) (.int 0)))
    (.cons (.ret (.lst (.cons (.frz (.comp (.slot 4) (.nm 4) (.rng (.slot 1)) .none [("k", 4)])) (.cons (.int 0) (.cons (.int 0) (.cons (.int 0) (.cons (.int 0) .nil)))))))
    .nil)
    .nil)
    (.cons (.set 2 (.lst .nil))
    (.cons (.set 3 (.call 6 (.cons (.slot 0) (.cons (.int 8) .nil))))
    (.cons (.for_ (.nm 4) (.rng (.slot 1))
    (.cons (.expr (.met .append (.slot 2) (.cons (.slot 3) .nil)))
    (.cons (.set 3 (.bin .Add (.bin .Add (.slot 3) (.int 1)) (.call 6 (.cons (.slot 0) (.cons (.int 14) .nil)))))
    .nil)))
    (.cons (.set 5 (.bin .BitAnd (.bin .Sub (.bin .LShift (.int 1) (.int 64)) (.int 1)) (.inv (.call 18 (.cons (.bin .Sub (.bin .LShift (.int 1) (.slot 1)) (.int 1)) (.cons (.slot 2) .nil))))))
    (.cons (.set 6 (.bin .BitAnd (.call 9 (.cons (.slot 0) (.cons (.int 64) (.cons (.int 3) .nil)))) (.slot 5)))
    (.cons (.set 7 (.bin .BitAnd (.bin .BitAnd (.call 9 (.cons (.slot 0) (.cons (.int 64) (.cons (.int 3) .nil)))) (.slot 5)) (.inv (.slot 6))))
    (.cons (.ret (.lst (.cons (.slot 2) (.cons (.slot 6) (.cons (.slot 7) (.cons (.bin .BitAnd (.call 9 (.cons (.slot 0) (.cons (.int 64) (.cons (.int 2) .nil)))) (.slot 5)) (.cons (.bin .BitAnd (.call 9 (.cons (.slot 0) (.cons (.int 64) (.cons (.int 2) .nil)))) (.slot 5)) .nil)))))))
    .nil))))))))⟩
abbrev n19 : List Str := ["tape", "many", "places", "at", "k", "free", "needs", "bars"]
abbrev p19 : List Str := ["tape", "many"]
abbrev s19 : PySem.Stmt := topS 22
/-- _law_told -/
def c20 : CF := ⟨5, 3, false, (.cons (.set 3 (.bin .BitOr (.call 18 (.cons (.idx (.slot 1) (.int 1)) (.cons (.idx (.slot 0) (.int 0)) .nil))) (.idx (.slot 0) (.int 1))))
    (.cons (.set 4 (.bin .BitOr (.call 18 (.cons (.idx (.slot 1) (.int 2)) (.cons (.idx (.slot 0) (.int 0)) .nil))) (.idx (.slot 0) (.int 2))))
    (.cons (.ret (.mk 0 (.cons (.slot 2) (.cons (.tup (.cons (.str "a") .nil)) (.cons (.str "") (.cons (.idx (.slot 1) (.int 0)) (.cons (.slot 3) (.cons (.slot 4) (.cons (.call 18 (.cons (.idx (.slot 1) (.int 3)) (.cons (.idx (.slot 0) (.int 0)) .nil))) (.cons (.call 18 (.cons (.idx (.slot 1) (.int 4)) (.cons (.idx (.slot 0) (.int 0)) .nil))) .nil))))))))))
    .nil)))⟩
abbrev n20 : List Str := ["room", "own", "name", "needs", "bars"]
abbrev p20 : List Str := ["room", "own", "name"]
abbrev s20 : PySem.Stmt := topS 23
/-- _law_handed -/
def c21 : CF := ⟨2, 2, false, (.cons (.ret (.tup (.cons (.bin .BitOr (.call 18 (.cons (.idx (.slot 1) (.int 0)) (.cons (.idx (.slot 0) (.int 0)) .nil))) (.idx (.slot 0) (.int 3))) (.cons (.bin .BitOr (.call 18 (.cons (.idx (.slot 1) (.int 1)) (.cons (.idx (.slot 0) (.int 0)) .nil))) (.idx (.slot 0) (.int 4))) .nil))))
    .nil)⟩
abbrev n21 : List Str := ["room", "masks"]
abbrev p21 : List Str := ["room", "masks"]
abbrev s21 : PySem.Stmt := topS 24
/-- _law_all_cover -/
def c22 : CF := ⟨6, 4, false, (.cons (.for_ (.nm 4) (.rng (.bin .LShift (.int 1) (.slot 0)))
    (.cons (.ite (.val (.call 10 (.cons (.slot 3) (.cons (.slot 4) .nil))))
    (.cons (.set 5 (.slot 4))
    (.cons (.ite (.val (.cmp .IsNot (.slot 2) .non))
    (.cons (.ite (.not (.val (.call 10 (.cons (.slot 2) (.cons (.slot 4) .nil)))))
    (.cons (.ret (.bl false))
    .nil)
    .nil)
    (.cons (.set 5 (.call 11 (.cons (.slot 2) (.cons (.slot 4) .nil))))
    .nil))
    .nil)
    (.cons (.ite (.not (.val (.call 12 (.cons (.slot 1) (.cons (.slot 5) (.cons (.call 11 (.cons (.slot 3) (.cons (.slot 4) .nil))) .nil))))))
    (.cons (.ret (.bl false))
    .nil)
    .nil)
    .nil)))
    .nil)
    .nil))
    (.cons (.ret (.bl true))
    .nil))⟩
abbrev n22 : List Str := ["many", "masks", "by", "own", "state", "big"]
abbrev p22 : List Str := ["many", "masks", "by", "own"]
abbrev s22 : PySem.Stmt := topS 25
/-- _law_pair_fine -/
def c23 : CF := ⟨9, 5, false, (.cons (.set 5 (.call 21 (.cons (.slot 1) (.cons (.slot 2) .nil))))
    (.cons (.set 6 (.frz (.call 20 (.cons (.slot 1) (.cons (.slot 4) (.cons (.str "go") .nil))))))
    (.cons (.set 7 (.frz (.call 20 (.cons (.slot 1) (.cons (.slot 3) (.cons (.str "by") .nil))))))
    (.cons (.ite (.not (.val (.call 8 (.cons (.call 0 (.cons (.slot 6) (.cons (.slot 5) .nil))) (.cons (.call 22 (.cons (.slot 0) (.cons (.slot 2) (.cons .non (.cons (.slot 4) .nil))))) .nil)))))
    (.cons (.ret (.bl false))
    .nil)
    .nil)
    (.cons (.set 8 (.and (.cmp .LtE (.idx (.slot 3) (.int 0)) (.idx (.slot 4) (.int 0))) (.call 22 (.cons (.slot 0) (.cons (.slot 2) (.cons (.slot 3) (.cons (.slot 4) .nil)))))))
    (.cons (.ret (.call 8 (.cons (.call 3 (.cons (.slot 7) (.cons (.slot 6) (.cons (.slot 5) .nil)))) (.cons (.slot 8) .nil))))
    .nil))))))⟩
abbrev n23 : List Str := ["many", "room", "masks", "by", "own", "handed", "case", "other", "due"]
abbrev p23 : List Str := ["many", "room", "masks", "by", "own"]
abbrev s23 : PySem.Stmt := topS 26
/-- _law_flipped -/
def c24 : CF := ⟨5, 3, false, (.cons (.set 3 (.bi .list (.cons (.slot 0) .nil)))
    (.cons (.sub (.slot 3) (.slot 1) (.bin .BitXor (.idx (.slot 3) (.slot 1)) (.slot 2)))
    (.cons (.set 4 (.idx (.frz (.lst (.cons (.int 0) (.cons (.int 2) (.cons (.int 1) (.cons (.int 4) (.cons (.int 3) .nil))))))) (.slot 1)))
    (.cons (.sub (.slot 3) (.slot 4) (.bin .BitAnd (.idx (.slot 3) (.slot 4)) (.inv (.idx (.slot 3) (.slot 1)))))
    (.cons (.ret (.tup (.cons (.idx (.slot 3) (.int 0)) (.cons (.idx (.slot 3) (.int 1)) (.cons (.idx (.slot 3) (.int 2)) (.cons (.idx (.slot 3) (.int 3)) (.cons (.idx (.slot 3) (.int 4)) .nil)))))))
    .nil)))))⟩
abbrev n24 : List Str := ["own", "part", "bit", "row", "twin"]
abbrev p24 : List Str := ["own", "part", "bit"]
abbrev s24 : PySem.Stmt := topS 27
/-- _law_flips_fine -/
def c25 : CF := ⟨8, 5, false, (.cons (.for_ (.nm 5) (.rng (.slot 0))
    (.cons (.set 6 (.bin .LShift (.int 1) (.slot 5)))
    (.cons (.for_ (.nm 7) (.rng2 (.int 1) (.int 5))
    (.cons (.ite (.not (.val (.call 23 (.cons (.slot 0) (.cons (.slot 1) (.cons (.slot 2) (.cons (.call 24 (.cons (.slot 3) (.cons (.slot 7) (.cons (.slot 6) .nil)))) (.cons (.slot 4) .nil))))))))
    (.cons (.ret (.bl false))
    .nil)
    .nil)
    (.cons (.ite (.not (.val (.call 23 (.cons (.slot 0) (.cons (.slot 1) (.cons (.slot 2) (.cons (.slot 3) (.cons (.call 24 (.cons (.slot 4) (.cons (.slot 7) (.cons (.slot 6) .nil)))) .nil))))))))
    (.cons (.ret (.bl false))
    .nil)
    .nil)
    .nil)))
    (.cons (.ite (.not (.val (.call 23 (.cons (.slot 0) (.cons (.slot 1) (.cons (.tup (.cons (.bin .BitXor (.idx (.slot 2) (.int 0)) (.slot 6)) (.cons (.idx (.slot 2) (.int 1)) .nil))) (.cons (.slot 3) (.cons (.slot 4) .nil))))))))
    (.cons (.ret (.bl false))
    .nil)
    .nil)
    (.cons (.ite (.not (.val (.call 23 (.cons (.slot 0) (.cons (.slot 1) (.cons (.tup (.cons (.idx (.slot 2) (.int 0)) (.cons (.bin .BitXor (.idx (.slot 2) (.int 1)) (.slot 6)) .nil))) (.cons (.slot 3) (.cons (.slot 4) .nil))))))))
    (.cons (.ret (.bl false))
    .nil)
    .nil)
    .nil)))))
    (.cons (.ret (.bl true))
    .nil))⟩
abbrev n25 : List Str := ["many", "room", "masks", "by", "own", "k", "bit", "part"]
abbrev p25 : List Str := ["many", "room", "masks", "by", "own"]
abbrev s25 : PySem.Stmt := topS 28
/-- _law_twice_fine -/
def c26 : CF := ⟨6, 3, false, (.cons (.set 3 (.frz (.call 20 (.cons (.slot 0) (.cons (.slot 2) (.cons (.str "go") .nil))))))
    (.cons (.ite (.val (.cmp .IsNot (.call 3 (.cons (.slot 3) (.cons (.slot 3) (.cons (.call 21 (.cons (.slot 0) (.cons (.slot 1) .nil))) .nil)))) (.bl true)))
    (.cons (.ret (.bl false))
    .nil)
    .nil)
    (.cons (.set 4 (.frz (.lst (.cons (.fld (.slot 3) 3) (.cons (.fld (.slot 3) 4) (.cons (.fld (.slot 3) 5) (.cons (.fld (.slot 3) 6) (.cons (.fld (.slot 3) 7) .nil))))))))
    (.cons (.set 5 (.frz (.call 20 (.cons (.slot 0) (.cons (.slot 2) (.cons (.str "go") .nil))))))
    (.cons (.ret (.cmp .Eq (.slot 4) (.frz (.lst (.cons (.fld (.slot 5) 3) (.cons (.fld (.slot 5) 4) (.cons (.fld (.slot 5) 5) (.cons (.fld (.slot 5) 6) (.cons (.fld (.slot 5) 7) .nil)))))))))
    .nil)))))⟩
abbrev n26 : List Str := ["room", "masks", "own", "case", "told", "again"]
abbrev p26 : List Str := ["room", "masks", "own"]
abbrev s26 : PySem.Stmt := topS 29
/-- law -/
def c27 : CF := ⟨15, 1, false, (.cons (.set 1 (.call 5 (.cons (.slot 0) .nil)))
    (.cons (.set 2 (.call 6 (.cons (.slot 1) (.cons (.int 6) .nil))))
    (.cons (.set 3 (.tup (.cons (.call 9 (.cons (.slot 1) (.cons (.slot 2) (.cons (.int 2) .nil)))) (.cons (.call 9 (.cons (.slot 1) (.cons (.slot 2) (.cons (.int 2) .nil)))) .nil))))
    (.cons (.set 4 (.frz (.comp (.call 15 (.cons (.slot 1) .nil)) (.nm 6) (.rng (.slot 2)) .none [("k", 6)])))
    (.cons (.set 5 (.lst .nil))
    (.cons (.for_ (.nm 6) (.rng (.slot 2))
    (.cons (.expr (.met .append (.slot 5) (.cons (.call 16 (.cons (.slot 1) (.cons (.idx (.slot 4) (.slot 6)) (.cons (.cmp .Eq (.bin .BitAnd (.bin .RShift (.idx (.slot 3) (.int 0)) (.slot 6)) (.int 1)) (.int 1)) (.cons (.cmp .Eq (.bin .BitAnd (.bin .RShift (.idx (.slot 3) (.int 1)) (.slot 6)) (.int 1)) (.int 1)) .nil))))) .nil)))
    .nil))
    (.cons (.set 7 (.frz (.call 19 (.cons (.slot 1) (.cons (.slot 2) .nil)))))
    (.cons (.set 8 (.call 7 (.cons (.slot 1) .nil)))
    (.cons (.set 9 (.call 17 (.cons (.slot 8) (.cons (.slot 4) .nil))))
    (.cons (.set 10 (.call 17 (.cons (.idx (.frz (.lst (.cons (.slot 8) (.cons (.bi .max2 (.cons (.int 0) (.cons (.bin .Sub (.slot 8) (.int 1)) .nil))) (.cons (.bin .FloorDiv (.slot 8) (.int 2)) .nil))))) (.call 6 (.cons (.slot 1) (.cons (.int 3) .nil)))) (.cons (.slot 5) .nil))))
    (.cons (.for_ (.nm 11) (.val (.frz (.lst (.cons (.int 0) (.cons (.int 1) .nil)))))
    (.cons (.set 12 (.tup (.cons (.bin .Add (.slot 8) (.slot 11)) (.cons (.idx (.slot 10) (.int 1)) (.cons (.idx (.slot 10) (.int 2)) (.cons (.idx (.slot 10) (.int 3)) (.cons (.idx (.slot 10) (.int 4)) .nil)))))))
    (.cons (.ite (.not (.val (.call 23 (.cons (.slot 2) (.cons (.slot 7) (.cons (.slot 3) (.cons (.slot 12) (.cons (.slot 9) .nil))))))))
    (.cons (.ret (.bl false))
    .nil)
    .nil)
    .nil)))
    (.cons (.ite (.or (.not (.val (.call 23 (.cons (.slot 2) (.cons (.slot 7) (.cons (.slot 3) (.cons (.slot 10) (.cons (.slot 9) .nil)))))))) (.not (.val (.call 23 (.cons (.slot 2) (.cons (.slot 7) (.cons (.slot 3) (.cons (.slot 9) (.cons (.slot 10) .nil)))))))))
    (.cons (.ret (.bl false))
    .nil)
    .nil)
    (.cons (.ite (.or (.not (.val (.call 26 (.cons (.slot 7) (.cons (.slot 3) (.cons (.slot 9) .nil)))))) (.not (.val (.call 26 (.cons (.slot 7) (.cons (.slot 3) (.cons (.slot 10) .nil)))))))
    (.cons (.ret (.bl false))
    .nil)
    .nil)
    (.cons (.for_ (.nm 13) (.rng (.int 3))
    (.cons (.set 14 (.frz (.comp (.call 15 (.cons (.slot 1) .nil)) (.nm 6) (.rng (.slot 2)) .none [("k", 6)])))
    (.cons (.ite (.not (.val (.call 23 (.cons (.slot 2) (.cons (.slot 7) (.cons (.slot 3) (.cons (.slot 10) (.cons (.call 17 (.cons (.slot 8) (.cons (.slot 14) .nil))) .nil))))))))
    (.cons (.ret (.bl false))
    .nil)
    .nil)
    .nil)))
    (.cons (.ret (.call 25 (.cons (.slot 2) (.cons (.slot 7) (.cons (.slot 3) (.cons (.slot 10) (.cons (.slot 9) .nil)))))))
    .nil)))))))))))))))⟩
abbrev n27 : List Str := ["script", "tape", "many", "masks", "rows", "beside", "k", "room", "cost", "own", "by", "step", "near", "turn", "more"]
abbrev p27 : List Str := ["script"]
abbrev s27 : PySem.Stmt := topS 30
def P : Nat → Option CF
  | 0 => some c0
  | 1 => some c1
  | 2 => some c2
  | 3 => some c3
  | 4 => some c4
  | 5 => some c5
  | 6 => some c6
  | 7 => some c7
  | 8 => some c8
  | 9 => some c9
  | 10 => some c10
  | 11 => some c11
  | 12 => some c12
  | 13 => some c13
  | 14 => some c14
  | 15 => some c15
  | 16 => some c16
  | 17 => some c17
  | 18 => some c18
  | 19 => some c19
  | 20 => some c20
  | 21 => some c21
  | 22 => some c22
  | 23 => some c23
  | 24 => some c24
  | 25 => some c25
  | 26 => some c26
  | 27 => some c27
  | _ => none
def flds : Nat → List Nat
  | 0 => [0, 1, 2, 3, 4, 5, 6, 7]
  | _ => []
def init : Nat → Nat
  | 0 => 4
  | _ => 0
def mth : Nat → Nat → Nat
  | _, _ => 0
def T : Tab := ⟨flds, init, mth⟩
/-! ### the look at the text -/
def nmL : List Str := ["name", "things", "signs", "cost", "needs", "bars", "adds", "drops"]
def fnL : List Str := ["useless", "keeps_asked_for", "keeps_asked_against", "dominates", "", "_law_tape", "_law_take", "_law_cost", "_law_same", "_law_mask", "_law_can", "_law_next", "_law_covers", "_law_after", "_law_fits", "_law_signs", "_law_beside", "_law_case_of", "_law_placed", "_law_room", "_law_told", "_law_handed", "_law_all_cover", "_law_pair_fine", "_law_flipped", "_law_flips_fine", "_law_twice_fine", "law"]
def cnL : List Str := ["Case"]
def mnL : List Str := ["__init__"]
def cst : Cst := ⟨T, nmOf nmL, nmOf fnL, nmOf cnL, nmOf mnL, fun f => decide (f ∈ ([0, 1, 2, 3, 5, 6, 7, 8, 9, 10, 11, 12, 13, 14, 15, 16, 17, 18, 19, 20, 21, 22, 23, 24, 25, 26, 27] : List Nat)), fun k => decide (k ∈ ([0] : List Nat)), fun k m => decide ((k, m) ∈ ([] : List (Nat × Nat)))⟩
def cfg (K : PySem.W.Frag) : Cfg := { cst with K := K, CA := fun k => gaK K (nmOf cnL k) }
theorem t0 : Txt cst "useless" "useless" s0 n0 p0 c0 := ⟨⟨rfl, rfl, rfl, by decide +kernel, rfl, by decide +kernel, by decide +kernel⟩, by decide +kernel, rfl, rfl, fun _ _ _ _ _ _ us hl => match us, hl with | [_, _], _ => rfl⟩
theorem t1 : Txt cst "keeps_asked_for" "keeps_asked_for" s1 n1 p1 c1 := ⟨⟨rfl, rfl, rfl, by decide +kernel, rfl, by decide +kernel, by decide +kernel⟩, by decide +kernel, rfl, rfl, fun _ _ _ _ _ _ us hl => match us, hl with | [_, _, _], _ => rfl⟩
theorem t2 : Txt cst "keeps_asked_against" "keeps_asked_against" s2 n2 p2 c2 := ⟨⟨rfl, rfl, rfl, by decide +kernel, rfl, by decide +kernel, by decide +kernel⟩, by decide +kernel, rfl, rfl, fun _ _ _ _ _ _ us hl => match us, hl with | [_, _, _], _ => rfl⟩
theorem t3 : Txt cst "dominates" "dominates" s3 n3 p3 c3 := ⟨⟨rfl, rfl, rfl, by decide +kernel, rfl, by decide +kernel, by decide +kernel⟩, by decide +kernel, rfl, rfl, fun _ _ _ _ _ _ us hl => match us, hl with | [_, _, _], _ => rfl⟩
theorem t4 : Txt cst "__init__" "Case.__init__" s4 n4 p4 c4 := ⟨⟨rfl, rfl, rfl, by decide +kernel, rfl, by decide +kernel, by decide +kernel⟩, by decide +kernel, rfl, rfl, fun _ _ _ _ _ _ us hl => match us, hl with | [_, _, _, _, _, _, _, _, _], _ => rfl⟩
theorem t5 : Txt cst "_law_tape" "_law_tape" s5 n5 p5 c5 := ⟨⟨rfl, rfl, rfl, by decide +kernel, rfl, by decide +kernel, by decide +kernel⟩, by decide +kernel, rfl, rfl, fun _ _ _ _ _ _ us hl => match us, hl with | [_], _ => rfl⟩
theorem t6 : Txt cst "_law_take" "_law_take" s6 n6 p6 c6 := ⟨⟨rfl, rfl, rfl, by decide +kernel, rfl, by decide +kernel, by decide +kernel⟩, by decide +kernel, rfl, rfl, fun _ _ _ _ _ _ us hl => match us, hl with | [_, _], _ => rfl⟩
theorem t7 : Txt cst "_law_cost" "_law_cost" s7 n7 p7 c7 := ⟨⟨rfl, rfl, rfl, by decide +kernel, rfl, by decide +kernel, by decide +kernel⟩, by decide +kernel, rfl, rfl, fun _ _ _ _ _ _ us hl => match us, hl with | [_], _ => rfl⟩
theorem t8 : Txt cst "_law_same" "_law_same" s8 n8 p8 c8 := ⟨⟨rfl, rfl, rfl, by decide +kernel, rfl, by decide +kernel, by decide +kernel⟩, by decide +kernel, rfl, rfl, fun _ _ _ _ _ _ us hl => match us, hl with | [_, _], _ => rfl⟩
theorem t9 : Txt cst "_law_mask" "_law_mask" s9 n9 p9 c9 := ⟨⟨rfl, rfl, rfl, by decide +kernel, rfl, by decide +kernel, by decide +kernel⟩, by decide +kernel, rfl, rfl, fun _ _ _ _ _ _ us hl => match us, hl with | [_, _, _], _ => rfl⟩
theorem t10 : Txt cst "_law_can" "_law_can" s10 n10 p10 c10 := ⟨⟨rfl, rfl, rfl, by decide +kernel, rfl, by decide +kernel, by decide +kernel⟩, by decide +kernel, rfl, rfl, fun _ _ _ _ _ _ us hl => match us, hl with | [_, _], _ => rfl⟩
theorem t11 : Txt cst "_law_next" "_law_next" s11 n11 p11 c11 := ⟨⟨rfl, rfl, rfl, by decide +kernel, rfl, by decide +kernel, by decide +kernel⟩, by decide +kernel, rfl, rfl, fun _ _ _ _ _ _ us hl => match us, hl with | [_, _], _ => rfl⟩
theorem t12 : Txt cst "_law_covers" "_law_covers" s12 n12 p12 c12 := ⟨⟨rfl, rfl, rfl, by decide +kernel, rfl, by decide +kernel, by decide +kernel⟩, by decide +kernel, rfl, rfl, fun _ _ _ _ _ _ us hl => match us, hl with | [_, _, _], _ => rfl⟩
theorem t13 : Txt cst "_law_after" "_law_after" s13 n13 p13 c13 := ⟨⟨rfl, rfl, rfl, by decide +kernel, rfl, by decide +kernel, by decide +kernel⟩, by decide +kernel, rfl, rfl, fun _ _ _ _ _ _ us hl => match us, hl with | [_, _], _ => rfl⟩
theorem t14 : Txt cst "_law_fits" "_law_fits" s14 n14 p14 c14 := ⟨⟨rfl, rfl, rfl, by decide +kernel, rfl, by decide +kernel, by decide +kernel⟩, by decide +kernel, rfl, rfl, fun _ _ _ _ _ _ us hl => match us, hl with | [_, _, _, _], _ => rfl⟩
theorem t15 : Txt cst "_law_signs" "_law_signs" s15 n15 p15 c15 := ⟨⟨rfl, rfl, rfl, by decide +kernel, rfl, by decide +kernel, by decide +kernel⟩, by decide +kernel, rfl, rfl, fun _ _ _ _ _ _ us hl => match us, hl with | [_], _ => rfl⟩
theorem t16 : Txt cst "_law_beside" "_law_beside" s16 n16 p16 c16 := ⟨⟨rfl, rfl, rfl, by decide +kernel, rfl, by decide +kernel, by decide +kernel⟩, by decide +kernel, rfl, rfl, fun _ _ _ _ _ _ us hl => match us, hl with | [_, _, _, _], _ => rfl⟩
theorem t17 : Txt cst "_law_case_of" "_law_case_of" s17 n17 p17 c17 := ⟨⟨rfl, rfl, rfl, by decide +kernel, rfl, by decide +kernel, by decide +kernel⟩, by decide +kernel, rfl, rfl, fun _ _ _ _ _ _ us hl => match us, hl with | [_, _], _ => rfl⟩
theorem t18 : Txt cst "_law_placed" "_law_placed" s18 n18 p18 c18 := ⟨⟨rfl, rfl, rfl, by decide +kernel, rfl, by decide +kernel, by decide +kernel⟩, by decide +kernel, rfl, rfl, fun _ _ _ _ _ _ us hl => match us, hl with | [_, _], _ => rfl⟩
theorem t19 : Txt cst "_law_room" "_law_room" s19 n19 p19 c19 := ⟨⟨rfl, rfl, rfl, by decide +kernel, rfl, by decide +kernel, by decide +kernel⟩, by decide +kernel, rfl, rfl, fun _ _ _ _ _ _ us hl => match us, hl with | [_, _], _ => rfl⟩
theorem t20 : Txt cst "_law_told" "_law_told" s20 n20 p20 c20 := ⟨⟨rfl, rfl, rfl, by decide +kernel, rfl, by decide +kernel, by decide +kernel⟩, by decide +kernel, rfl, rfl, fun _ _ _ _ _ _ us hl => match us, hl with | [_, _, _], _ => rfl⟩
theorem t21 : Txt cst "_law_handed" "_law_handed" s21 n21 p21 c21 := ⟨⟨rfl, rfl, rfl, by decide +kernel, rfl, by decide +kernel, by decide +kernel⟩, by decide +kernel, rfl, rfl, fun _ _ _ _ _ _ us hl => match us, hl with | [_, _], _ => rfl⟩
theorem t22 : Txt cst "_law_all_cover" "_law_all_cover" s22 n22 p22 c22 := ⟨⟨rfl, rfl, rfl, by decide +kernel, rfl, by decide +kernel, by decide +kernel⟩, by decide +kernel, rfl, rfl, fun _ _ _ _ _ _ us hl => match us, hl with | [_, _, _, _], _ => rfl⟩
theorem t23 : Txt cst "_law_pair_fine" "_law_pair_fine" s23 n23 p23 c23 := ⟨⟨rfl, rfl, rfl, by decide +kernel, rfl, by decide +kernel, by decide +kernel⟩, by decide +kernel, rfl, rfl, fun _ _ _ _ _ _ us hl => match us, hl with | [_, _, _, _, _], _ => rfl⟩
theorem t24 : Txt cst "_law_flipped" "_law_flipped" s24 n24 p24 c24 := ⟨⟨rfl, rfl, rfl, by decide +kernel, rfl, by decide +kernel, by decide +kernel⟩, by decide +kernel, rfl, rfl, fun _ _ _ _ _ _ us hl => match us, hl with | [_, _, _], _ => rfl⟩
theorem t25 : Txt cst "_law_flips_fine" "_law_flips_fine" s25 n25 p25 c25 := ⟨⟨rfl, rfl, rfl, by decide +kernel, rfl, by decide +kernel, by decide +kernel⟩, by decide +kernel, rfl, rfl, fun _ _ _ _ _ _ us hl => match us, hl with | [_, _, _, _, _], _ => rfl⟩
theorem t26 : Txt cst "_law_twice_fine" "_law_twice_fine" s26 n26 p26 c26 := ⟨⟨rfl, rfl, rfl, by decide +kernel, rfl, by decide +kernel, by decide +kernel⟩, by decide +kernel, rfl, rfl, fun _ _ _ _ _ _ us hl => match us, hl with | [_, _, _], _ => rfl⟩
theorem t27 : Txt cst "law" "law" s27 n27 p27 c27 := ⟨⟨rfl, rfl, rfl, by decide +kernel, rfl, by decide +kernel, by decide +kernel⟩, by decide +kernel, rfl, rfl, fun _ _ _ _ _ _ us hl => match us, hl with | [_], _ => rfl⟩
theorem prog {K : PySem.W.Frag} {mg : Str → Option Value} (hm : ∀ x f, PySem.W.nsIn K mainGlobals x = some (some (.ref f)) → mg x = some (.ref f)) (hn : ∀ x, PySem.W.nsIn K mainGlobals x = some none → mg x = none) (z : NoneAll K bnames)
    (k0 : ClsAt K "Case" ["name", "things", "signs", "cost", "needs", "bars", "adds", "drops"])
    (d0 : ∃ f, DefAt K "useless" s0 f)
    (d1 : ∃ f, DefAt K "keeps_asked_for" s1 f)
    (d2 : ∃ f, DefAt K "keeps_asked_against" s2 f)
    (d3 : ∃ f, DefAt K "dominates" s3 f)
    (d4 : ∃ f, MethAt K "Case" "__init__" "Case.__init__" s4 f)
    (d5 : ∃ f, DefAt K "_law_tape" s5 f)
    (d6 : ∃ f, DefAt K "_law_take" s6 f)
    (d7 : ∃ f, DefAt K "_law_cost" s7 f)
    (d8 : ∃ f, DefAt K "_law_same" s8 f)
    (d9 : ∃ f, DefAt K "_law_mask" s9 f)
    (d10 : ∃ f, DefAt K "_law_can" s10 f)
    (d11 : ∃ f, DefAt K "_law_next" s11 f)
    (d12 : ∃ f, DefAt K "_law_covers" s12 f)
    (d13 : ∃ f, DefAt K "_law_after" s13 f)
    (d14 : ∃ f, DefAt K "_law_fits" s14 f)
    (d15 : ∃ f, DefAt K "_law_signs" s15 f)
    (d16 : ∃ f, DefAt K "_law_beside" s16 f)
    (d17 : ∃ f, DefAt K "_law_case_of" s17 f)
    (d18 : ∃ f, DefAt K "_law_placed" s18 f)
    (d19 : ∃ f, DefAt K "_law_room" s19 f)
    (d20 : ∃ f, DefAt K "_law_told" s20 f)
    (d21 : ∃ f, DefAt K "_law_handed" s21 f)
    (d22 : ∃ f, DefAt K "_law_all_cover" s22 f)
    (d23 : ∃ f, DefAt K "_law_pair_fine" s23 f)
    (d24 : ∃ f, DefAt K "_law_flipped" s24 f)
    (d25 : ∃ f, DefAt K "_law_flips_fine" s25 f)
    (d26 : ∃ f, DefAt K "_law_twice_fine" s26 f)
    (d27 : ∃ f, DefAt K "law" s27 f)
    : Prog (cfg K) P mg where
  blt := fun x hx => hn x (z.get x hx)
  cls := fun k f h => match k, h with
    | 0, h => k0.fields rfl (show ∀ f ∈ flds 0, nmOf nmL f ∈ (["name", "things", "signs", "cost", "needs", "bars", "adds", "drops"] : List Str) by decide +kernel) h
    | n + 1, h => absurd rfl h
  inj := nmOf_inj (l := nmL) (by decide +kernel) (by decide +kernel)
  fn := fun f hf => match f, hf with
    | 0, _ => d0.elim fun _ d => t0.fn d hm rfl rfl
    | 1, _ => d1.elim fun _ d => t1.fn d hm rfl rfl
    | 2, _ => d2.elim fun _ d => t2.fn d hm rfl rfl
    | 3, _ => d3.elim fun _ d => t3.fn d hm rfl rfl
    | 4, hf => absurd (show decide (4 ∈ ([0, 1, 2, 3, 5, 6, 7, 8, 9, 10, 11, 12, 13, 14, 15, 16, 17, 18, 19, 20, 21, 22, 23, 24, 25, 26, 27] : List Nat)) = true from hf) (by decide)
    | 5, _ => d5.elim fun _ d => t5.fn d hm rfl rfl
    | 6, _ => d6.elim fun _ d => t6.fn d hm rfl rfl
    | 7, _ => d7.elim fun _ d => t7.fn d hm rfl rfl
    | 8, _ => d8.elim fun _ d => t8.fn d hm rfl rfl
    | 9, _ => d9.elim fun _ d => t9.fn d hm rfl rfl
    | 10, _ => d10.elim fun _ d => t10.fn d hm rfl rfl
    | 11, _ => d11.elim fun _ d => t11.fn d hm rfl rfl
    | 12, _ => d12.elim fun _ d => t12.fn d hm rfl rfl
    | 13, _ => d13.elim fun _ d => t13.fn d hm rfl rfl
    | 14, _ => d14.elim fun _ d => t14.fn d hm rfl rfl
    | 15, _ => d15.elim fun _ d => t15.fn d hm rfl rfl
    | 16, _ => d16.elim fun _ d => t16.fn d hm rfl rfl
    | 17, _ => d17.elim fun _ d => t17.fn d hm rfl rfl
    | 18, _ => d18.elim fun _ d => t18.fn d hm rfl rfl
    | 19, _ => d19.elim fun _ d => t19.fn d hm rfl rfl
    | 20, _ => d20.elim fun _ d => t20.fn d hm rfl rfl
    | 21, _ => d21.elim fun _ d => t21.fn d hm rfl rfl
    | 22, _ => d22.elim fun _ d => t22.fn d hm rfl rfl
    | 23, _ => d23.elim fun _ d => t23.fn d hm rfl rfl
    | 24, _ => d24.elim fun _ d => t24.fn d hm rfl rfl
    | 25, _ => d25.elim fun _ d => t25.fn d hm rfl rfl
    | 26, _ => d26.elim fun _ d => t26.fn d hm rfl rfl
    | 27, _ => d27.elim fun _ d => t27.fn d hm rfl rfl
    | n + 28, hf => absurd (of_decide_eq_true (show decide (n + 28 ∈ ([0, 1, 2, 3, 5, 6, 7, 8, 9, 10, 11, 12, 13, 14, 15, 16, 17, 18, 19, 20, 21, 22, 23, 24, 25, 26, 27] : List Nat)) = true from hf)) (by simp)
  ini := fun k hk => match k, hk with
    | 0, _ => d4.elim fun _ d => t4.ini d k0 hm rfl rfl rfl
    | n + 1, hk => absurd (of_decide_eq_true (show decide (n + 1 ∈ ([0] : List Nat)) = true from hk)) (by simp)
  mth := fun k m h => absurd (of_decide_eq_true (show decide ((k, m) ∈ ([] : List (Nat × Nat))) = true from h)) (by simp)
end K19
namespace K19
open PySem Py
open Builtin (bitAnd bitOr bitNot)
/-! ### the law's own look, by states -/
def canB (n b s : Int) : Bool := decide (bitAnd s n = n) && decide (bitAnd s b = 0)
def nextI (a d s : Int) : Int := bitOr (bitAnd s (bitNot d)) a
def covB (f g big small : Int) : Bool := decide (bitAnd (bitAnd small f) (bitNot big) = 0) && decide (bitAnd (bitAnd big g) (bitNot small) = 0)
def allN (N : Nat) (f g n b a d : Int) : Bool := (List.range (2 ^ N)).all fun s => !canB n b s || covB f g s (nextI a d s)
def allD (N : Nat) (f g n' b' a' d' n b a d : Int) : Bool := (List.range (2 ^ N)).all fun s => !canB n b s || (canB n' b' s && covB f g (nextI a' d' s) (nextI a d s))
/-! ### the program's look, by masks -/
def usB (n b a d f g : Int) : Bool := decide (bitAnd (bitAnd a f) (bitNot n) = 0) && decide (bitAnd (bitAnd d g) (bitNot b) = 0)
def kfB (a' d' n b a d f : Int) : Bool := decide (bitAnd f (bitOr (bitAnd a (bitNot (bitOr a' (bitAnd n (bitNot d'))))) (bitAnd d' (bitNot (bitOr (bitOr a d) b)))) = 0)
def kgB (a' d' n b a d g : Int) : Bool := decide (bitAnd g (bitOr (bitAnd a' (bitNot (bitOr a (bitAnd n (bitNot d))))) (bitAnd d (bitNot (bitOr (bitOr a' d') b)))) = 0)
def domB (c' n' b' a' d' c n b a d f g : Int) : Bool := decide (c' ≤ c) && decide (bitAnd n' (bitNot n) = 0) && decide (bitAnd b' (bitNot b) = 0) && kfB a' d' n b a d f && kgB a' d' n b a d g
/-- a case of N facts -/
structure Fc (N : Nat) (n b a d : Int) : Prop where
  hn : ∀ k, N ≤ k → ib n k = false
  hb : ∀ k, N ≤ k → ib b k = false
  ha : ∀ k, N ≤ k → ib a k = false
  hd : ∀ k, N ≤ k → ib d k = false
  nb : ∀ k, ib n k = true → ib b k = false
  ad : ∀ k, ib a k = true → ib d k = false
theorem can_iff {n b s : Int} : canB n b s = true ↔ (∀ k, ib n k = true → ib s k = true) ∧ ∀ k, ib s k = true → ib b k = false := by
  unfold canB
  rw [Bool.and_eq_true, decide_eq_true_eq, decide_eq_true_eq, sub_iff, eq0_iff]
  constructor
  · intro ⟨h1, h2⟩
    refine ⟨h1, fun k hk => ?_⟩
    have := h2 k
    rw [ib_and, hk] at this
    simpa using this
  · intro ⟨h1, h2⟩
    refine ⟨h1, fun k => ?_⟩
    rw [ib_and]
    cases hs : ib s k with
    | false => rfl
    | true => rw [h2 k hs]; rfl
theorem ib_next {a d s : Int} {k : Nat} : ib (nextI a d s) k = ((ib s k && !ib d k) || ib a k) := by
  rw [nextI, ib_or, ib_and, ib_not]
theorem cov_iff {f g big small : Int} : covB f g big small = true ↔ ∀ k, (ib small k = true → ib f k = true → ib big k = true) ∧ (ib big k = true → ib g k = true → ib small k = true) := by
  unfold covB
  rw [Bool.and_eq_true, decide_eq_true_eq, decide_eq_true_eq, eq0_iff, eq0_iff]
  constructor
  · intro ⟨h1, h2⟩ k
    have a := h1 k
    have b := h2 k
    rw [ib_and, ib_and, ib_not] at a b
    constructor
    · intro x y; rw [x, y] at a; simpa using a
    · intro x y; rw [x, y] at b; simpa using b
  · intro h
    constructor
    · intro k
      rw [ib_and, ib_and, ib_not]
      cases x : ib small k <;> cases y : ib f k <;> simp
      exact (h k).1 x y
    · intro k
      rw [ib_and, ib_and, ib_not]
      cases x : ib big k <;> cases y : ib g k <;> simp
      exact (h k).2 x y
/-- all states below 2 ^ N -/
theorem all_states {N : Nat} {p : Int → Bool} (hp : ∀ x y : Int, (∀ k, k < N → ib x k = ib y k) → (∀ k, N ≤ k → ib x k = false) → p x = true → (∀ k, N ≤ k → ib y k = false) → p y = true) :
    (List.range (2 ^ N)).all (fun s : Nat => p (s : Int)) = true ↔ ∀ x : Int, (∀ k, N ≤ k → ib x k = false) → p x = true := by
  rw [List.all_eq_true]
  constructor
  · intro h x hx
    obtain ⟨h0, h1⟩ := ib_all_neg N hx
    have := h x.toNat (by
      rw [List.mem_range]
      have : ((2 ^ N : Nat) : Int) = (2 : Int) ^ N := by simp
      omega)
    rwa [Int.toNat_of_nonneg h0] at this
  · intro h s hs
    apply h
    intro k hk
    rw [List.mem_range] at hs
    exact ib_ge (by omega) (by have : ((2 ^ N : Nat) : Int) = (2 : Int) ^ N := by simp
                               omega) hk
theorem all_st {N : Nat} {p : Int → Bool} : (List.range (2 ^ N)).all (fun s : Nat => p (s : Int)) = true ↔ ∀ x : Int, (∀ k, N ≤ k → ib x k = false) → p x = true := by
  rw [List.all_eq_true]
  have e : ((2 ^ N : Nat) : Int) = (2 : Int) ^ N := by simp
  constructor
  · intro h x hx
    obtain ⟨h0, h1⟩ := ib_all_neg N hx
    have := h x.toNat (by rw [List.mem_range]; omega)
    rwa [Int.toNat_of_nonneg h0] at this
  · intro h s hs
    apply h
    intro k hk
    rw [List.mem_range] at hs
    exact ib_ge (by omega) (by omega) hk
/-- needs with one fact more -/
def up (n : Int) (k : Nat) : Int := bitOr n (1 * 2 ^ k)
theorem ib_up {n : Int} {k j : Nat} : ib (up n k) j = (ib n j || decide (j = k)) := by rw [up, ib_or, ib_pow]
theorem can_self {n b : Int} (h : ∀ k, ib n k = true → ib b k = false) : canB n b n = true := can_iff.mpr ⟨fun _ h => h, h⟩
theorem can_up {n b : Int} {k : Nat} (h : ∀ k, ib n k = true → ib b k = false) (hb : ib b k = false) : canB n b (up n k) = true := by
  rw [can_iff]
  refine ⟨fun j hj => by rw [ib_up, hj]; rfl, fun j hj => ?_⟩
  rw [ib_up, Bool.or_eq_true] at hj
  rcases hj with hj | hj
  · exact h j hj
  · rw [of_decide_eq_true hj]; exact hb
theorem us_all {N : Nat} {f g n b a d : Int} (h : Fc N n b a d) : usB n b a d f g = allN N f g n b a d := by
  rw [Bool.eq_iff_iff]
  unfold allN
  rw [all_st (p := fun s => !canB n b s || covB f g s (nextI a d s))]
  unfold usB
  rw [Bool.and_eq_true, decide_eq_true_eq, decide_eq_true_eq, eq0_iff, eq0_iff]
  constructor
  · intro ⟨h1, h2⟩ x hx
    cases hc : canB n b x with
    | false => rfl
    | true =>
      obtain ⟨c1, c2⟩ := can_iff.mp hc
      show covB f g x (nextI a d x) = true
      rw [cov_iff]
      intro k
      rw [ib_next]
      have e1 := h1 k
      have e2 := h2 k
      rw [ib_and, ib_and, ib_not] at e1 e2
      have e3 := c1 k
      have e4 := c2 k
      have e5 := h.ad k
      revert e1 e2 e3 e4 e5
      cases ib a k <;> cases ib f k <;> cases ib n k <;> cases ib d k <;> cases ib g k <;> cases ib b k <;> cases ib x k <;> simp
  · intro hx
    have s1 := hx n h.hn
    rw [can_self h.nb] at s1
    have s1 := cov_iff.mp (show covB f g n (nextI a d n) = true by simpa using s1)
    constructor
    · intro k
      rw [ib_and, ib_and, ib_not]
      have e1 := (s1 k).1
      rw [ib_next] at e1
      revert e1
      cases ib a k <;> cases ib f k <;> cases ib n k <;> simp
    · intro k
      rw [ib_and, ib_and, ib_not]
      cases hb : ib b k with
      | true => simp
      | false =>
        cases hd : ib d k with
        | false => rfl
        | true =>
          have hkN : k < N := by
            rcases Nat.lt_or_ge k N with g | g
            · exact g
            · rw [h.hd k g] at hd; cases hd
          have s2 := hx (up n k) (fun j hj => by rw [ib_up, h.hn j hj]; simp; omega)
          rw [can_up h.nb hb] at s2
          have s2 := (cov_iff.mp (show covB f g (up n k) (nextI a d (up n k)) = true by simpa using s2) k).2
          rw [ib_next, ib_up, hd] at s2
          have e5 := h.ad k
          rw [hd] at e5
          revert s2 e5
          cases ib a k <;> cases ib g k <;> simp
theorem dom_all {N : Nat} {c' n' b' a' d' c n b a d f g : Int} (h : Fc N n b a d) (h' : Fc N n' b' a' d') : domB c' n' b' a' d' c n b a d f g = (decide (c' ≤ c) && allD N f g n' b' a' d' n b a d) := by
  unfold domB
  rw [Bool.and_assoc, Bool.and_assoc, Bool.and_assoc]
  congr 1
  rw [Bool.eq_iff_iff]
  unfold allD
  rw [all_st (p := fun s => !canB n b s || (canB n' b' s && covB f g (nextI a' d' s) (nextI a d s)))]
  unfold kfB kgB
  simp only [Bool.and_eq_true, decide_eq_true_eq, eq0_iff]
  constructor
  · intro ⟨h1, h2, h3, h4⟩ x hx
    cases hc : canB n b x with
    | false => rfl
    | true =>
      obtain ⟨c1, c2⟩ := can_iff.mp hc
      show (canB n' b' x && covB f g (nextI a' d' x) (nextI a d x)) = true
      rw [Bool.and_eq_true]
      constructor
      · rw [can_iff]
        constructor
        · intro k hk
          have e := h1 k
          rw [ib_and, ib_not, hk] at e
          exact c1 k (by simpa using e)
        · intro k hk
          have e := h2 k
          rw [ib_and, ib_not, c2 k hk] at e
          simpa using e
      · rw [cov_iff]
        intro k
        rw [ib_next, ib_next]
        have e1 := h3 k
        have e2 := h4 k
        simp only [ib_and, ib_or, ib_not] at e1 e2
        have e3 := c1 k
        have e4 := c2 k
        revert e1 e2 e3 e4
        cases ib a k <;> cases ib f k <;> cases ib n k <;> cases ib d k <;> cases ib g k <;> cases ib b k <;> cases ib x k <;> cases ib a' k <;> cases ib d' k <;> simp
  · intro hx
    have s1 := hx n h.hn
    rw [can_self h.nb] at s1
    have s1 : (canB n' b' n && covB f g (nextI a' d' n) (nextI a d n)) = true := by simpa using s1
    rw [Bool.and_eq_true] at s1
    have c1 := can_iff.mp s1.1
    have v1 := cov_iff.mp s1.2
    have upk : ∀ k, k < N → ib b k = false → (canB n' b' (up n k) && covB f g (nextI a' d' (up n k)) (nextI a d (up n k))) = true := by
      intro k hk hb
      have s2 := hx (up n k) (fun j hj => by rw [ib_up, h.hn j hj]; simp; omega)
      rw [can_up h.nb hb] at s2
      simpa using s2
    refine ⟨fun k => ?_, fun k => ?_, fun k => ?_, fun k => ?_⟩
    · rw [ib_and, ib_not]
      have := c1.1 k
      revert this
      cases ib n' k <;> cases ib n k <;> simp
    · rw [ib_and, ib_not]
      cases hb : ib b k with
      | true => simp
      | false =>
        cases hb' : ib b' k with
        | false => rfl
        | true =>
          have hkN : k < N := by
            rcases Nat.lt_or_ge k N with g | g
            · exact g
            · rw [h'.hb k g] at hb'; cases hb'
          have s2 := upk k hkN hb
          rw [Bool.and_eq_true] at s2
          have := (can_iff.mp s2.1).2 k (by rw [ib_up]; simp)
          rw [hb'] at this; cases this
    all_goals
      simp only [ib_and, ib_or, ib_not]
      have t1 := v1 k
      rw [ib_next, ib_next] at t1
      have e5 := h.ad k
      have e6 := h'.ad k
      by_cases hkN : k < N
      · cases hb : ib b k with
        | true =>
          have e7 := h.nb k
          rw [hb] at e7
          revert t1 e5 e6 e7
          cases ib a k <;> cases ib f k <;> cases ib n k <;> cases ib d k <;> cases ib g k <;> cases ib a' k <;> cases ib d' k <;> simp
        | false =>
          have s2 := upk k hkN hb
          rw [Bool.and_eq_true] at s2
          have t2 := cov_iff.mp s2.2 k
          rw [ib_next, ib_next, ib_up] at t2
          revert t1 t2 e5 e6
          cases ib a k <;> cases ib f k <;> cases ib n k <;> cases ib d k <;> cases ib g k <;> cases ib a' k <;> cases ib d' k <;> simp
      · have g1 := h.ha k (by omega)
        have g2 := h.hd k (by omega)
        have g3 := h'.ha k (by omega)
        have g4 := h'.hd k (by omega)
        rw [g1, g2, g3, g4]; simp
end K19
namespace K19
open PySem Py
open Builtin (bitAnd bitOr bitNot)
/-! ### facts at places -/
structure Pl (N : Nat) (pl : List Nat) : Prop where
  len : pl.length = N
  inj : ∀ i j, i < N → j < N → pl.getD i 0 = pl.getD j 0 → i = j
  lt : ∀ i, i < N → pl.getD i 0 < 64
/-- the mask m at places, its first bits -/
def plc (m : Int) (pl : List Nat) : Nat → Int
  | 0 => 0
  | i + 1 => if ib m i then bitOr (plc m pl i) (1 * 2 ^ (pl.getD i 0)) else plc m pl i
theorem ib_plc (m : Int) (pl : List Nat) (j : Nat) : ∀ n, ib (plc m pl n) j = true ↔ ∃ k, k < n ∧ pl.getD k 0 = j ∧ ib m k = true
  | 0 => by simp [plc, ib_0]
  | n + 1 => by
    rw [plc]
    by_cases hm : ib m n = true
    · rw [if_pos hm, ib_or, ib_pow, Bool.or_eq_true, ib_plc m pl j n, decide_eq_true_eq]
      constructor
      · rintro (⟨k, h1, h2, h3⟩ | h)
        · exact ⟨k, by omega, h2, h3⟩
        · exact ⟨n, by omega, h.symm, hm⟩
      · rintro ⟨k, h1, h2, h3⟩
        by_cases hk : k = n
        · subst hk; exact .inr h2.symm
        · exact .inl ⟨k, by omega, h2, h3⟩
    · rw [if_neg hm, ib_plc m pl j n]
      constructor
      · rintro ⟨k, h1, h2, h3⟩
        exact ⟨k, by omega, h2, h3⟩
      · rintro ⟨k, h1, h2, h3⟩
        by_cases hk : k = n
        · subst hk; exact absurd h3 hm
        · exact ⟨k, by omega, h2, h3⟩
section
variable {N : Nat} {pl : List Nat} (hp : Pl N pl)
include hp
theorem plc_at {m : Int} {k : Nat} (hk : k < N) : ib (plc m pl N) (pl.getD k 0) = ib m k := by
  rw [Bool.eq_iff_iff, ib_plc]
  constructor
  · rintro ⟨i, h1, h2, h3⟩
    rw [← hp.inj i k h1 hk h2]; exact h3
  · intro h; exact ⟨k, hk, rfl, h⟩
omit hp in
theorem plc_out {m : Int} {j : Nat} (hj : ∀ k, k < N → pl.getD k 0 ≠ j) : ib (plc m pl N) j = false := by
  cases h : ib (plc m pl N) j with
  | false => rfl
  | true =>
    obtain ⟨k, h1, h2, _⟩ := (ib_plc m pl j N).mp h
    exact absurd h2 (hj k h1)
omit hp in
theorem zero_iff {F G : Nat → Bool} (h1 : ∀ k, k < N → F (pl.getD k 0) = G k) (h2 : ∀ j, (∀ k, k < N → pl.getD k 0 ≠ j) → F j = false) (h3 : ∀ k, N ≤ k → G k = false) : (∀ j, F j = false) ↔ ∀ k, G k = false := by
  constructor
  · intro h k
    rcases Nat.lt_or_ge k N with g | g
    · rw [← h1 k g]; exact h _
    · exact h3 k g
  · intro h j
    by_cases hj : ∃ k, k < N ∧ pl.getD k 0 = j
    · obtain ⟨k, hk, rfl⟩ := hj
      rw [h1 k hk]; exact h k
    · exact h2 j fun k hk e => hj ⟨k, hk, e⟩
/-- free of the places -/
def Fre (N : Nat) (pl : List Nat) (r : Int) : Prop := ∀ k, k < N → ib r (pl.getD k 0) = false
variable {r1 r2 r3 r4 : Int} (f1 : Fre N pl r1) (f2 : Fre N pl r2) (f3 : Fre N pl r3) (f4 : Fre N pl r4)
include f1 f2 f3 f4
theorem us_placed {n b a d f g : Int} (h : Fc N n b a d) : usB (bitOr (plc n pl N) r1) (bitOr (plc b pl N) r2) (plc a pl N) (plc d pl N) (bitOr (plc f pl N) r3) (bitOr (plc g pl N) r4) = usB n b a d f g := by
  unfold usB
  congr 1
  · rw [Bool.eq_iff_iff, decide_eq_true_eq, decide_eq_true_eq, eq0_iff, eq0_iff]
    refine zero_iff (pl := pl) (N := N) (fun k hk => ?_) (fun j hj => ?_) (fun k hk => ?_)
    · simp only [ib_and, ib_or, ib_not, plc_at hp hk, f1 k hk, f3 k hk, Bool.or_false]
    · simp only [ib_and, ib_or, ib_not, plc_out hj, Bool.false_and]
    · simp only [ib_and, h.ha k hk, Bool.false_and]
  · rw [Bool.eq_iff_iff, decide_eq_true_eq, decide_eq_true_eq, eq0_iff, eq0_iff]
    refine zero_iff (pl := pl) (N := N) (fun k hk => ?_) (fun j hj => ?_) (fun k hk => ?_)
    · simp only [ib_and, ib_or, ib_not, plc_at hp hk, f2 k hk, f4 k hk, Bool.or_false]
    · simp only [ib_and, ib_or, ib_not, plc_out hj, Bool.false_and]
    · simp only [ib_and, h.hd k hk, Bool.false_and]
theorem dom_placed {c' n' b' a' d' c n b a d f g : Int} (h : Fc N n b a d) (h' : Fc N n' b' a' d') :
    domB c' (bitOr (plc n' pl N) r1) (bitOr (plc b' pl N) r2) (plc a' pl N) (plc d' pl N) c (bitOr (plc n pl N) r1) (bitOr (plc b pl N) r2) (plc a pl N) (plc d pl N) (bitOr (plc f pl N) r3) (bitOr (plc g pl N) r4) = domB c' n' b' a' d' c n b a d f g := by
  unfold domB kfB kgB
  congr 1
  · congr 1
    · congr 1
      · congr 1
        rw [Bool.eq_iff_iff, decide_eq_true_eq, decide_eq_true_eq, eq0_iff, eq0_iff]
        refine zero_iff (pl := pl) (N := N) (fun k hk => ?_) (fun j hj => ?_) (fun k hk => ?_)
        · simp only [ib_and, ib_or, ib_not, plc_at hp hk, f1 k hk, Bool.or_false]
        · simp only [ib_and, ib_or, ib_not, plc_out hj, Bool.false_or]
          cases ib r1 j <;> rfl
        · simp only [ib_and, h'.hn k hk, Bool.false_and]
      · rw [Bool.eq_iff_iff, decide_eq_true_eq, decide_eq_true_eq, eq0_iff, eq0_iff]
        refine zero_iff (pl := pl) (N := N) (fun k hk => ?_) (fun j hj => ?_) (fun k hk => ?_)
        · simp only [ib_and, ib_or, ib_not, plc_at hp hk, f2 k hk, Bool.or_false]
        · simp only [ib_and, ib_or, ib_not, plc_out hj, Bool.false_or]
          cases ib r2 j <;> rfl
        · simp only [ib_and, h'.hb k hk, Bool.false_and]
    · rw [Bool.eq_iff_iff, decide_eq_true_eq, decide_eq_true_eq, eq0_iff, eq0_iff]
      refine zero_iff (pl := pl) (N := N) (fun k hk => ?_) (fun j hj => ?_) (fun k hk => ?_)
      · simp only [ib_and, ib_or, ib_not, plc_at hp hk, f1 k hk, f2 k hk, f3 k hk, Bool.or_false]
      · simp only [ib_and, ib_or, ib_not, plc_out hj, Bool.false_and, Bool.or_false, Bool.and_false]
      · simp only [ib_and, ib_or, h.ha k hk, h'.hd k hk, Bool.false_and, Bool.or_false, Bool.and_false]
  · rw [Bool.eq_iff_iff, decide_eq_true_eq, decide_eq_true_eq, eq0_iff, eq0_iff]
    refine zero_iff (pl := pl) (N := N) (fun k hk => ?_) (fun j hj => ?_) (fun k hk => ?_)
    · simp only [ib_and, ib_or, ib_not, plc_at hp hk, f1 k hk, f2 k hk, f4 k hk, Bool.or_false]
    · simp only [ib_and, ib_or, ib_not, plc_out hj, Bool.false_and, Bool.or_false, Bool.and_false]
    · simp only [ib_and, ib_or, h.hd k hk, h'.ha k hk, Bool.false_and, Bool.or_false, Bool.and_false]
end
end K19
namespace K19
open PySem Py
open Builtin (bitAnd bitOr bitNot)
abbrev caseD (nm : Str) (c n b a d : Int) : D := .obj 0 [.str nm, .tup [.str "a"], .str "", .int c, .int n, .int b, .int a, .int d]
abbrev own5 (c n b a d : Int) : D := .tup [.int c, .int n, .int b, .int a, .int d]
abbrev mk2 (f g : Int) : D := .tup [.int f, .int g]
section
variable {S : Sto} {x0 x1 x2 x3 x4 x5 x6 x7 : D}
theorem fl3 : fldD T 3 (.obj 0 [x0, x1, x2, x3, x4, x5, x6, x7]) S = .ok x3 S := fld_obj (k := 3) rfl rfl
theorem fl4 : fldD T 4 (.obj 0 [x0, x1, x2, x3, x4, x5, x6, x7]) S = .ok x4 S := fld_obj (k := 4) rfl rfl
theorem fl5 : fldD T 5 (.obj 0 [x0, x1, x2, x3, x4, x5, x6, x7]) S = .ok x5 S := fld_obj (k := 5) rfl rfl
theorem fl6 : fldD T 6 (.obj 0 [x0, x1, x2, x3, x4, x5, x6, x7]) S = .ok x6 S := fld_obj (k := 6) rfl rfl
theorem fl7 : fldD T 7 (.obj 0 [x0, x1, x2, x3, x4, x5, x6, x7]) S = .ok x7 S := fld_obj (k := 7) rfl rfl
end
theorem ret_same {S : Sto} {d : D} (p : d.pure = true) : W (shutK S d S) fun d' S' => d' = d ∧ S' = S := by rw [end_same p]; exact ⟨rfl, rfl⟩
theorem ite_and {p q : Prop} [Decidable p] {a b : Bool} {S : Sto} {Q : D → Sto → Prop} (h : Q (.bl (a && b)) S) : if a = true then Q (.bl b) S else Q (.bl false) S := by
  cases a
  · exact h
  · exact h
section
variable {k : Nat} {S : Sto}
theorem useless_ok {nm : Str} {c n b a d f g : Int} : sem T P (k + 1) 0 [caseD nm c n b a d, mk2 f g] S = .ok (.bl (usB n b a d f g)) S := by
  rw [← W_iff]
  refine W_run (cf := c0) rfl rfl rfl ?_
  simp only [c0, List.length_map, b_nil, b_cons, k_next, k_ret, k_brk, k_cnt, f_for, f_comp, ss_pass, ss_ret, ss_retN, ss_expr, ss_set, ss_tset, ss_sub, ss_sfld, ss_aug, ss_ite, ss_for, ss_whl, ss_brk, ss_cnt, e_slot, e_non, e_bl, e_int, e_str, e_bin, e_neg, e_inv, e_cmp, e_chain, e_and, e_or, e_not, e_ife, e_tup, e_lst, e_call, e_mk, e_bi, e_met, e_om, e_idx, e_slc, e_fld, e_comp, e_frz, t_and, t_or, t_not, t_val, q_none, q_some, es_nil, es_cons, o_none, o_some, i_val, i_rng, i_rng2, i_enum, i_zip, i_rev, a_nm, a_tp, sets_nil, sets_cons, wipe_nil, wipe_cons, tru_bl, tru_int, seq_lst, seq_tup, lst_lst, bi_len, bi_lenT, bi_abs, bi_int, bi_min2, bi_max2, bi_listL, bi_tupleL, bi_sum, W_ok, b_add, b_sub, b_mul, b_div, b_mod, b_pow, b_shl, b_shr, b_and, b_or, b_xor, c_eq, c_ne, c_lt, c_le, c_gt, c_ge, c_eqb, c_neb, c_non, c_isnon, c_isb, c_isnb, endK_ret, endK_next, rf_0, sw_0, rf_1, sw_1, rf_2, sw_2, rf_3, sw_3, rf_4, sw_4, rf_5, sw_5, rf_6, sw_6, rf_7, sw_7, tup_0, lst_0, tup_1, lst_1, tup_2, lst_2, tup_3, lst_3, tup_4, lst_4, tup_5, lst_5, tup_6, lst_6, tup_7, lst_7, endW_ret, endW_next, stepW_next, stepW_cnt, stepW_brk, stepW_ret, List.map_cons, List.map_nil, List.length_cons, List.length_nil, List.replicate, List.cons_append, List.nil_append, List.set_cons_zero, List.set_cons_succ, List.getElem?_cons_zero, List.getElem?_cons_succ, Option.some.injEq, D.int.injEq, D.bl.injEq, exEq, exists_eq_left', if_true, if_false, Bool.false_eq_true, decide_eq_true_eq, Option.isSome_some, true_and, reduceCtorEq, bit_p1, bit_p0, dec_false, dec_true, not_true_p, Int.toNat_natCast, Nat.reduceAdd, Nat.reduceSub, fl4, fl5, fl6, fl7]
  unfold usB
  split
  · rename_i h
    rw [decide_eq_true h, Bool.true_and]
    exact ret_same rfl
  · rename_i h
    rw [decide_eq_false h, Bool.false_and]
    exact ret_same rfl
theorem kf_ok {nm nm' : Str} {c n b a d c' n' b' a' d' f : Int} : sem T P (k + 1) 1 [caseD nm' c' n' b' a' d', caseD nm c n b a d, .int f] S = .ok (.bl (kfB a' d' n b a d f)) S := by
  rw [← W_iff]
  refine W_run (cf := c1) rfl rfl rfl ?_
  simp only [c1, List.length_map, b_nil, b_cons, k_next, k_ret, k_brk, k_cnt, f_for, f_comp, ss_pass, ss_ret, ss_retN, ss_expr, ss_set, ss_tset, ss_sub, ss_sfld, ss_aug, ss_ite, ss_for, ss_whl, ss_brk, ss_cnt, e_slot, e_non, e_bl, e_int, e_str, e_bin, e_neg, e_inv, e_cmp, e_chain, e_and, e_or, e_not, e_ife, e_tup, e_lst, e_call, e_mk, e_bi, e_met, e_om, e_idx, e_slc, e_fld, e_comp, e_frz, t_and, t_or, t_not, t_val, q_none, q_some, es_nil, es_cons, o_none, o_some, i_val, i_rng, i_rng2, i_enum, i_zip, i_rev, a_nm, a_tp, sets_nil, sets_cons, wipe_nil, wipe_cons, tru_bl, tru_int, seq_lst, seq_tup, lst_lst, bi_len, bi_lenT, bi_abs, bi_int, bi_min2, bi_max2, bi_listL, bi_tupleL, bi_sum, W_ok, b_add, b_sub, b_mul, b_div, b_mod, b_pow, b_shl, b_shr, b_and, b_or, b_xor, c_eq, c_ne, c_lt, c_le, c_gt, c_ge, c_eqb, c_neb, c_non, c_isnon, c_isb, c_isnb, endK_ret, endK_next, rf_0, sw_0, rf_1, sw_1, rf_2, sw_2, rf_3, sw_3, rf_4, sw_4, rf_5, sw_5, rf_6, sw_6, rf_7, sw_7, tup_0, lst_0, tup_1, lst_1, tup_2, lst_2, tup_3, lst_3, tup_4, lst_4, tup_5, lst_5, tup_6, lst_6, tup_7, lst_7, endW_ret, endW_next, stepW_next, stepW_cnt, stepW_brk, stepW_ret, List.map_cons, List.map_nil, List.length_cons, List.length_nil, List.replicate, List.cons_append, List.nil_append, List.set_cons_zero, List.set_cons_succ, List.getElem?_cons_zero, List.getElem?_cons_succ, Option.some.injEq, D.int.injEq, D.bl.injEq, exEq, exists_eq_left', if_true, if_false, Bool.false_eq_true, decide_eq_true_eq, Option.isSome_some, true_and, reduceCtorEq, bit_p1, bit_p0, dec_false, dec_true, not_true_p, Int.toNat_natCast, Nat.reduceAdd, Nat.reduceSub, fl4, fl5, fl6, fl7]
  exact ret_same rfl
theorem kg_ok {nm nm' : Str} {c n b a d c' n' b' a' d' f : Int} : sem T P (k + 1) 2 [caseD nm' c' n' b' a' d', caseD nm c n b a d, .int f] S = .ok (.bl (kgB a' d' n b a d f)) S := by
  rw [← W_iff]
  refine W_run (cf := c2) rfl rfl rfl ?_
  simp only [c2, List.length_map, b_nil, b_cons, k_next, k_ret, k_brk, k_cnt, f_for, f_comp, ss_pass, ss_ret, ss_retN, ss_expr, ss_set, ss_tset, ss_sub, ss_sfld, ss_aug, ss_ite, ss_for, ss_whl, ss_brk, ss_cnt, e_slot, e_non, e_bl, e_int, e_str, e_bin, e_neg, e_inv, e_cmp, e_chain, e_and, e_or, e_not, e_ife, e_tup, e_lst, e_call, e_mk, e_bi, e_met, e_om, e_idx, e_slc, e_fld, e_comp, e_frz, t_and, t_or, t_not, t_val, q_none, q_some, es_nil, es_cons, o_none, o_some, i_val, i_rng, i_rng2, i_enum, i_zip, i_rev, a_nm, a_tp, sets_nil, sets_cons, wipe_nil, wipe_cons, tru_bl, tru_int, seq_lst, seq_tup, lst_lst, bi_len, bi_lenT, bi_abs, bi_int, bi_min2, bi_max2, bi_listL, bi_tupleL, bi_sum, W_ok, b_add, b_sub, b_mul, b_div, b_mod, b_pow, b_shl, b_shr, b_and, b_or, b_xor, c_eq, c_ne, c_lt, c_le, c_gt, c_ge, c_eqb, c_neb, c_non, c_isnon, c_isb, c_isnb, endK_ret, endK_next, rf_0, sw_0, rf_1, sw_1, rf_2, sw_2, rf_3, sw_3, rf_4, sw_4, rf_5, sw_5, rf_6, sw_6, rf_7, sw_7, tup_0, lst_0, tup_1, lst_1, tup_2, lst_2, tup_3, lst_3, tup_4, lst_4, tup_5, lst_5, tup_6, lst_6, tup_7, lst_7, endW_ret, endW_next, stepW_next, stepW_cnt, stepW_brk, stepW_ret, List.map_cons, List.map_nil, List.length_cons, List.length_nil, List.replicate, List.cons_append, List.nil_append, List.set_cons_zero, List.set_cons_succ, List.getElem?_cons_zero, List.getElem?_cons_succ, Option.some.injEq, D.int.injEq, D.bl.injEq, exEq, exists_eq_left', if_true, if_false, Bool.false_eq_true, decide_eq_true_eq, Option.isSome_some, true_and, reduceCtorEq, bit_p1, bit_p0, dec_false, dec_true, not_true_p, Int.toNat_natCast, Nat.reduceAdd, Nat.reduceSub, fl4, fl5, fl6, fl7]
  exact ret_same rfl
theorem dom_ok {nm nm' : Str} {c n b a d c' n' b' a' d' f g : Int} : sem T P (k + 2) 3 [caseD nm' c' n' b' a' d', caseD nm c n b a d, mk2 f g] S = .ok (.bl (domB c' n' b' a' d' c n b a d f g)) S := by
  rw [← W_iff]
  refine W_run (cf := c3) rfl rfl rfl ?_
  simp only [c3, List.length_map, b_nil, b_cons, k_next, k_ret, k_brk, k_cnt, f_for, f_comp, ss_pass, ss_ret, ss_retN, ss_expr, ss_set, ss_tset, ss_sub, ss_sfld, ss_aug, ss_ite, ss_for, ss_whl, ss_brk, ss_cnt, e_slot, e_non, e_bl, e_int, e_str, e_bin, e_neg, e_inv, e_cmp, e_chain, e_and, e_or, e_not, e_ife, e_tup, e_lst, e_call, e_mk, e_bi, e_met, e_om, e_idx, e_slc, e_fld, e_comp, e_frz, t_and, t_or, t_not, t_val, q_none, q_some, es_nil, es_cons, o_none, o_some, i_val, i_rng, i_rng2, i_enum, i_zip, i_rev, a_nm, a_tp, sets_nil, sets_cons, wipe_nil, wipe_cons, tru_bl, tru_int, seq_lst, seq_tup, lst_lst, bi_len, bi_lenT, bi_abs, bi_int, bi_min2, bi_max2, bi_listL, bi_tupleL, bi_sum, W_ok, b_add, b_sub, b_mul, b_div, b_mod, b_pow, b_shl, b_shr, b_and, b_or, b_xor, c_eq, c_ne, c_lt, c_le, c_gt, c_ge, c_eqb, c_neb, c_non, c_isnon, c_isb, c_isnb, endK_ret, endK_next, rf_0, sw_0, rf_1, sw_1, rf_2, sw_2, rf_3, sw_3, rf_4, sw_4, rf_5, sw_5, rf_6, sw_6, rf_7, sw_7, tup_0, lst_0, tup_1, lst_1, tup_2, lst_2, tup_3, lst_3, tup_4, lst_4, tup_5, lst_5, tup_6, lst_6, tup_7, lst_7, endW_ret, endW_next, stepW_next, stepW_cnt, stepW_brk, stepW_ret, List.map_cons, List.map_nil, List.length_cons, List.length_nil, List.replicate, List.cons_append, List.nil_append, List.set_cons_zero, List.set_cons_succ, List.getElem?_cons_zero, List.getElem?_cons_succ, Option.some.injEq, D.int.injEq, D.bl.injEq, exEq, exists_eq_left', if_true, if_false, Bool.false_eq_true, decide_eq_true_eq, Option.isSome_some, true_and, reduceCtorEq, bit_p1, bit_p0, dec_false, dec_true, not_true_p, Int.toNat_natCast, Nat.reduceAdd, Nat.reduceSub, fl3, fl4, fl5, fl6, fl7, kf_ok, kg_ok]
  unfold domB
  by_cases h1 : c < c'
  · simp only [h1, if_true, show ¬ c' ≤ c by omega, decide_false, Bool.false_and]
    exact ret_same rfl
  · by_cases h2 : bitAnd n' (bitNot n) = 0
    · by_cases h3 : bitAnd b' (bitNot b) = 0
      · simp only [h1, h2, h3, show c' ≤ c by omega, decide_true, Bool.true_and, if_false, Bool.not_true, Bool.false_eq_true, reduceCtorEq, if_true]
        cases hk : kfB a' d' n b a d f with
        | true => simp only [if_true, Bool.true_and]; exact ret_same rfl
        | false => simp only [if_false, Bool.false_eq_true, Bool.false_and]; exact ret_same rfl
      · simp only [h1, h2, h3, show c' ≤ c by omega, decide_true, decide_false, Bool.true_and, Bool.false_and, if_false, if_true, Bool.not_true, Bool.not_false, Bool.false_eq_true]
        exact ret_same rfl
    · simp only [h1, h2, show c' ≤ c by omega, decide_true, decide_false, Bool.true_and, Bool.false_and, if_false, if_true, Bool.not_true, Bool.not_false, Bool.false_eq_true]
      exact ret_same rfl
theorem can_ok {c n b a d s : Int} : sem T P (k + 1) 10 [own5 c n b a d, .int s] S = .ok (.bl (canB n b s)) S := by
  rw [← W_iff]
  refine W_run (cf := c10) rfl rfl rfl ?_
  simp only [c10, List.length_map, b_nil, b_cons, k_next, k_ret, k_brk, k_cnt, f_for, f_comp, ss_pass, ss_ret, ss_retN, ss_expr, ss_set, ss_tset, ss_sub, ss_sfld, ss_aug, ss_ite, ss_for, ss_whl, ss_brk, ss_cnt, e_slot, e_non, e_bl, e_int, e_str, e_bin, e_neg, e_inv, e_cmp, e_chain, e_and, e_or, e_not, e_ife, e_tup, e_lst, e_call, e_mk, e_bi, e_met, e_om, e_idx, e_slc, e_fld, e_comp, e_frz, t_and, t_or, t_not, t_val, q_none, q_some, es_nil, es_cons, o_none, o_some, i_val, i_rng, i_rng2, i_enum, i_zip, i_rev, a_nm, a_tp, sets_nil, sets_cons, wipe_nil, wipe_cons, tru_bl, tru_int, seq_lst, seq_tup, lst_lst, bi_len, bi_lenT, bi_abs, bi_int, bi_min2, bi_max2, bi_listL, bi_tupleL, bi_sum, W_ok, b_add, b_sub, b_mul, b_div, b_mod, b_pow, b_shl, b_shr, b_and, b_or, b_xor, c_eq, c_ne, c_lt, c_le, c_gt, c_ge, c_eqb, c_neb, c_non, c_isnon, c_isb, c_isnb, endK_ret, endK_next, rf_0, sw_0, rf_1, sw_1, rf_2, sw_2, rf_3, sw_3, rf_4, sw_4, rf_5, sw_5, rf_6, sw_6, rf_7, sw_7, tup_0, lst_0, tup_1, lst_1, tup_2, lst_2, tup_3, lst_3, tup_4, lst_4, tup_5, lst_5, tup_6, lst_6, tup_7, lst_7, endW_ret, endW_next, stepW_next, stepW_cnt, stepW_brk, stepW_ret, List.map_cons, List.map_nil, List.length_cons, List.length_nil, List.replicate, List.cons_append, List.nil_append, List.set_cons_zero, List.set_cons_succ, List.getElem?_cons_zero, List.getElem?_cons_succ, Option.some.injEq, D.int.injEq, D.bl.injEq, exEq, exists_eq_left', if_true, if_false, Bool.false_eq_true, decide_eq_true_eq, Option.isSome_some, true_and, reduceCtorEq, bit_p1, bit_p0, dec_false, dec_true, not_true_p, Int.toNat_natCast, Nat.reduceAdd, Nat.reduceSub]
  unfold canB
  split
  · rename_i h
    rw [decide_eq_true h, Bool.true_and]
    exact ret_same rfl
  · rename_i h
    rw [decide_eq_false h, Bool.false_and]
    exact ret_same rfl
theorem next_ok {c n b a d s : Int} : sem T P (k + 1) 11 [own5 c n b a d, .int s] S = .ok (.int (nextI a d s)) S := by
  rw [← W_iff]
  refine W_run (cf := c11) rfl rfl rfl ?_
  simp only [c11, List.length_map, b_nil, b_cons, k_next, k_ret, k_brk, k_cnt, f_for, f_comp, ss_pass, ss_ret, ss_retN, ss_expr, ss_set, ss_tset, ss_sub, ss_sfld, ss_aug, ss_ite, ss_for, ss_whl, ss_brk, ss_cnt, e_slot, e_non, e_bl, e_int, e_str, e_bin, e_neg, e_inv, e_cmp, e_chain, e_and, e_or, e_not, e_ife, e_tup, e_lst, e_call, e_mk, e_bi, e_met, e_om, e_idx, e_slc, e_fld, e_comp, e_frz, t_and, t_or, t_not, t_val, q_none, q_some, es_nil, es_cons, o_none, o_some, i_val, i_rng, i_rng2, i_enum, i_zip, i_rev, a_nm, a_tp, sets_nil, sets_cons, wipe_nil, wipe_cons, tru_bl, tru_int, seq_lst, seq_tup, lst_lst, bi_len, bi_lenT, bi_abs, bi_int, bi_min2, bi_max2, bi_listL, bi_tupleL, bi_sum, W_ok, b_add, b_sub, b_mul, b_div, b_mod, b_pow, b_shl, b_shr, b_and, b_or, b_xor, c_eq, c_ne, c_lt, c_le, c_gt, c_ge, c_eqb, c_neb, c_non, c_isnon, c_isb, c_isnb, endK_ret, endK_next, rf_0, sw_0, rf_1, sw_1, rf_2, sw_2, rf_3, sw_3, rf_4, sw_4, rf_5, sw_5, rf_6, sw_6, rf_7, sw_7, tup_0, lst_0, tup_1, lst_1, tup_2, lst_2, tup_3, lst_3, tup_4, lst_4, tup_5, lst_5, tup_6, lst_6, tup_7, lst_7, endW_ret, endW_next, stepW_next, stepW_cnt, stepW_brk, stepW_ret, List.map_cons, List.map_nil, List.length_cons, List.length_nil, List.replicate, List.cons_append, List.nil_append, List.set_cons_zero, List.set_cons_succ, List.getElem?_cons_zero, List.getElem?_cons_succ, Option.some.injEq, D.int.injEq, D.bl.injEq, exEq, exists_eq_left', if_true, if_false, Bool.false_eq_true, decide_eq_true_eq, Option.isSome_some, true_and, reduceCtorEq, bit_p1, bit_p0, dec_false, dec_true, not_true_p, Int.toNat_natCast, Nat.reduceAdd, Nat.reduceSub]
  exact ret_same rfl
theorem cov_ok {f g x y : Int} : sem T P (k + 1) 12 [mk2 f g, .int x, .int y] S = .ok (.bl (covB f g x y)) S := by
  rw [← W_iff]
  refine W_run (cf := c12) rfl rfl rfl ?_
  simp only [c12, List.length_map, b_nil, b_cons, k_next, k_ret, k_brk, k_cnt, f_for, f_comp, ss_pass, ss_ret, ss_retN, ss_expr, ss_set, ss_tset, ss_sub, ss_sfld, ss_aug, ss_ite, ss_for, ss_whl, ss_brk, ss_cnt, e_slot, e_non, e_bl, e_int, e_str, e_bin, e_neg, e_inv, e_cmp, e_chain, e_and, e_or, e_not, e_ife, e_tup, e_lst, e_call, e_mk, e_bi, e_met, e_om, e_idx, e_slc, e_fld, e_comp, e_frz, t_and, t_or, t_not, t_val, q_none, q_some, es_nil, es_cons, o_none, o_some, i_val, i_rng, i_rng2, i_enum, i_zip, i_rev, a_nm, a_tp, sets_nil, sets_cons, wipe_nil, wipe_cons, tru_bl, tru_int, seq_lst, seq_tup, lst_lst, bi_len, bi_lenT, bi_abs, bi_int, bi_min2, bi_max2, bi_listL, bi_tupleL, bi_sum, W_ok, b_add, b_sub, b_mul, b_div, b_mod, b_pow, b_shl, b_shr, b_and, b_or, b_xor, c_eq, c_ne, c_lt, c_le, c_gt, c_ge, c_eqb, c_neb, c_non, c_isnon, c_isb, c_isnb, endK_ret, endK_next, rf_0, sw_0, rf_1, sw_1, rf_2, sw_2, rf_3, sw_3, rf_4, sw_4, rf_5, sw_5, rf_6, sw_6, rf_7, sw_7, tup_0, lst_0, tup_1, lst_1, tup_2, lst_2, tup_3, lst_3, tup_4, lst_4, tup_5, lst_5, tup_6, lst_6, tup_7, lst_7, endW_ret, endW_next, stepW_next, stepW_cnt, stepW_brk, stepW_ret, List.map_cons, List.map_nil, List.length_cons, List.length_nil, List.replicate, List.cons_append, List.nil_append, List.set_cons_zero, List.set_cons_succ, List.getElem?_cons_zero, List.getElem?_cons_succ, Option.some.injEq, D.int.injEq, D.bl.injEq, exEq, exists_eq_left', if_true, if_false, Bool.false_eq_true, decide_eq_true_eq, Option.isSome_some, true_and, reduceCtorEq, bit_p1, bit_p0, dec_false, dec_true, not_true_p, Int.toNat_natCast, Nat.reduceAdd, Nat.reduceSub]
  unfold covB
  split
  · rename_i h
    rw [decide_eq_true h, Bool.true_and]
    exact ret_same rfl
  · rename_i h
    rw [decide_eq_false h, Bool.false_and]
    exact ret_same rfl
theorem rg_pow {n : Nat} (h : n ≤ 6) : (-(2 ^ 62) ≤ (1 : Int) * 2 ^ n ∧ (1 : Int) * 2 ^ n < 2 ^ 62) ∧ ((1 : Int) * 2 ^ n).toNat = 2 ^ n := by
  have h1 : (2 : Int) ^ n ≤ 2 ^ 6 := pow_le h
  have h2 : (0 : Int) < 2 ^ n := Int.pow_pos (by omega)
  have h3 : ((2 ^ n : Nat) : Int) = (2 : Int) ^ n := by simp
  refine ⟨⟨by omega, by omega⟩, by omega⟩
theorem cover_none {N : Nat} {f g c n b a d : Int} (hN : N ≤ 6) : sem T P (k + 2) 22 [.int (N : Int), mk2 f g, .non, own5 c n b a d] S = .ok (.bl (allN N f g n b a d)) S := by
  rw [← W_iff]
  refine W_run (cf := c22) rfl rfl rfl ?_
  simp only [c22, List.length_map, b_nil, b_cons, k_next, k_ret, k_brk, k_cnt, f_for, f_comp, ss_pass, ss_ret, ss_retN, ss_expr, ss_set, ss_tset, ss_sub, ss_sfld, ss_aug, ss_ite, ss_for, ss_whl, ss_brk, ss_cnt, e_slot, e_non, e_bl, e_int, e_str, e_bin, e_neg, e_inv, e_cmp, e_chain, e_and, e_or, e_not, e_ife, e_tup, e_lst, e_call, e_mk, e_bi, e_met, e_om, e_idx, e_slc, e_fld, e_comp, e_frz, t_and, t_or, t_not, t_val, q_none, q_some, es_nil, es_cons, o_none, o_some, i_val, i_rng, i_rng2, i_enum, i_zip, i_rev, a_nm, a_tp, sets_nil, sets_cons, wipe_nil, wipe_cons, tru_bl, tru_int, seq_lst, seq_tup, lst_lst, bi_len, bi_lenT, bi_abs, bi_int, bi_min2, bi_max2, bi_listL, bi_tupleL, bi_sum, W_ok, b_add, b_sub, b_mul, b_div, b_mod, b_pow, b_shl, b_shr, b_and, b_or, b_xor, c_eq, c_ne, c_lt, c_le, c_gt, c_ge, c_eqb, c_neb, c_non, c_isnon, c_isb, c_isnb, endK_ret, endK_next, rf_0, sw_0, rf_1, sw_1, rf_2, sw_2, rf_3, sw_3, rf_4, sw_4, rf_5, sw_5, rf_6, sw_6, rf_7, sw_7, tup_0, lst_0, tup_1, lst_1, tup_2, lst_2, tup_3, lst_3, tup_4, lst_4, tup_5, lst_5, tup_6, lst_6, tup_7, lst_7, endW_ret, endW_next, stepW_next, stepW_cnt, stepW_brk, stepW_ret, List.map_cons, List.map_nil, List.length_cons, List.length_nil, List.replicate, List.cons_append, List.nil_append, List.set_cons_zero, List.set_cons_succ, List.getElem?_cons_zero, List.getElem?_cons_succ, Option.some.injEq, D.int.injEq, D.bl.injEq, exEq, exists_eq_left', if_true, if_false, Bool.false_eq_true, decide_eq_true_eq, Option.isSome_some, true_and, reduceCtorEq, bit_p1, bit_p0, dec_false, dec_true, not_true_p, Int.toNat_natCast, Nat.reduceAdd, Nat.reduceSub]
  refine ⟨shl1 (by omega), (rg_pow hN).1, ?_⟩
  rw [(rg_pow hN).2]
  refine W_all (p := fun s => !canB n b s || covB f g s (nextI a d s)) (fun σ => ∃ x y, σ = [some (.int (N : Int)), some (mk2 f g), some .non, some (own5 c n b a d), x, y]) ⟨_, _, rfl⟩ (fun j σ hj h => ?_) (fun ht σ h => ?_) (fun hf => ?_)
  · obtain ⟨x, y, rfl⟩ := h
    simp only [List.length_map, b_nil, b_cons, k_next, k_ret, k_brk, k_cnt, f_for, f_comp, ss_pass, ss_ret, ss_retN, ss_expr, ss_set, ss_tset, ss_sub, ss_sfld, ss_aug, ss_ite, ss_for, ss_whl, ss_brk, ss_cnt, e_slot, e_non, e_bl, e_int, e_str, e_bin, e_neg, e_inv, e_cmp, e_chain, e_and, e_or, e_not, e_ife, e_tup, e_lst, e_call, e_mk, e_bi, e_met, e_om, e_idx, e_slc, e_fld, e_comp, e_frz, t_and, t_or, t_not, t_val, q_none, q_some, es_nil, es_cons, o_none, o_some, i_val, i_rng, i_rng2, i_enum, i_zip, i_rev, a_nm, a_tp, sets_nil, sets_cons, wipe_nil, wipe_cons, tru_bl, tru_int, seq_lst, seq_tup, lst_lst, bi_len, bi_lenT, bi_abs, bi_int, bi_min2, bi_max2, bi_listL, bi_tupleL, bi_sum, W_ok, b_add, b_sub, b_mul, b_div, b_mod, b_pow, b_shl, b_shr, b_and, b_or, b_xor, c_eq, c_ne, c_lt, c_le, c_gt, c_ge, c_eqb, c_neb, c_non, c_isnon, c_isb, c_isnb, endK_ret, endK_next, rf_0, sw_0, rf_1, sw_1, rf_2, sw_2, rf_3, sw_3, rf_4, sw_4, rf_5, sw_5, rf_6, sw_6, rf_7, sw_7, tup_0, lst_0, tup_1, lst_1, tup_2, lst_2, tup_3, lst_3, tup_4, lst_4, tup_5, lst_5, tup_6, lst_6, tup_7, lst_7, endW_ret, endW_next, stepW_next, stepW_cnt, stepW_brk, stepW_ret, List.map_cons, List.map_nil, List.length_cons, List.length_nil, List.replicate, List.cons_append, List.nil_append, List.set_cons_zero, List.set_cons_succ, List.getElem?_cons_zero, List.getElem?_cons_succ, Option.some.injEq, D.int.injEq, D.bl.injEq, exEq, exists_eq_left', if_true, if_false, Bool.false_eq_true, decide_eq_true_eq, Option.isSome_some, true_and, reduceCtorEq, bit_p1, bit_p0, dec_false, dec_true, not_true_p, Int.toNat_natCast, Nat.reduceAdd, Nat.reduceSub, can_ok]
    by_cases hc : canB n b j = true
    · simp only [hc, List.length_map, b_nil, b_cons, k_next, k_ret, k_brk, k_cnt, f_for, f_comp, ss_pass, ss_ret, ss_retN, ss_expr, ss_set, ss_tset, ss_sub, ss_sfld, ss_aug, ss_ite, ss_for, ss_whl, ss_brk, ss_cnt, e_slot, e_non, e_bl, e_int, e_str, e_bin, e_neg, e_inv, e_cmp, e_chain, e_and, e_or, e_not, e_ife, e_tup, e_lst, e_call, e_mk, e_bi, e_met, e_om, e_idx, e_slc, e_fld, e_comp, e_frz, t_and, t_or, t_not, t_val, q_none, q_some, es_nil, es_cons, o_none, o_some, i_val, i_rng, i_rng2, i_enum, i_zip, i_rev, a_nm, a_tp, sets_nil, sets_cons, wipe_nil, wipe_cons, tru_bl, tru_int, seq_lst, seq_tup, lst_lst, bi_len, bi_lenT, bi_abs, bi_int, bi_min2, bi_max2, bi_listL, bi_tupleL, bi_sum, W_ok, b_add, b_sub, b_mul, b_div, b_mod, b_pow, b_shl, b_shr, b_and, b_or, b_xor, c_eq, c_ne, c_lt, c_le, c_gt, c_ge, c_eqb, c_neb, c_non, c_isnon, c_isb, c_isnb, endK_ret, endK_next, rf_0, sw_0, rf_1, sw_1, rf_2, sw_2, rf_3, sw_3, rf_4, sw_4, rf_5, sw_5, rf_6, sw_6, rf_7, sw_7, tup_0, lst_0, tup_1, lst_1, tup_2, lst_2, tup_3, lst_3, tup_4, lst_4, tup_5, lst_5, tup_6, lst_6, tup_7, lst_7, endW_ret, endW_next, stepW_next, stepW_cnt, stepW_brk, stepW_ret, List.map_cons, List.map_nil, List.length_cons, List.length_nil, List.replicate, List.cons_append, List.nil_append, List.set_cons_zero, List.set_cons_succ, List.getElem?_cons_zero, List.getElem?_cons_succ, Option.some.injEq, D.int.injEq, D.bl.injEq, exEq, exists_eq_left', if_true, if_false, Bool.false_eq_true, decide_eq_true_eq, Option.isSome_some, true_and, reduceCtorEq, bit_p1, bit_p0, dec_false, dec_true, not_true_p, Int.toNat_natCast, Nat.reduceAdd, Nat.reduceSub, decide_true, Bool.not_true, next_ok, cov_ok, Bool.false_or]
      by_cases hv : covB f g j (nextI a d j) = true
      · simp only [hv, List.length_map, b_nil, b_cons, k_next, k_ret, k_brk, k_cnt, f_for, f_comp, ss_pass, ss_ret, ss_retN, ss_expr, ss_set, ss_tset, ss_sub, ss_sfld, ss_aug, ss_ite, ss_for, ss_whl, ss_brk, ss_cnt, e_slot, e_non, e_bl, e_int, e_str, e_bin, e_neg, e_inv, e_cmp, e_chain, e_and, e_or, e_not, e_ife, e_tup, e_lst, e_call, e_mk, e_bi, e_met, e_om, e_idx, e_slc, e_fld, e_comp, e_frz, t_and, t_or, t_not, t_val, q_none, q_some, es_nil, es_cons, o_none, o_some, i_val, i_rng, i_rng2, i_enum, i_zip, i_rev, a_nm, a_tp, sets_nil, sets_cons, wipe_nil, wipe_cons, tru_bl, tru_int, seq_lst, seq_tup, lst_lst, bi_len, bi_lenT, bi_abs, bi_int, bi_min2, bi_max2, bi_listL, bi_tupleL, bi_sum, W_ok, b_add, b_sub, b_mul, b_div, b_mod, b_pow, b_shl, b_shr, b_and, b_or, b_xor, c_eq, c_ne, c_lt, c_le, c_gt, c_ge, c_eqb, c_neb, c_non, c_isnon, c_isb, c_isnb, endK_ret, endK_next, rf_0, sw_0, rf_1, sw_1, rf_2, sw_2, rf_3, sw_3, rf_4, sw_4, rf_5, sw_5, rf_6, sw_6, rf_7, sw_7, tup_0, lst_0, tup_1, lst_1, tup_2, lst_2, tup_3, lst_3, tup_4, lst_4, tup_5, lst_5, tup_6, lst_6, tup_7, lst_7, endW_ret, endW_next, stepW_next, stepW_cnt, stepW_brk, stepW_ret, List.map_cons, List.map_nil, List.length_cons, List.length_nil, List.replicate, List.cons_append, List.nil_append, List.set_cons_zero, List.set_cons_succ, List.getElem?_cons_zero, List.getElem?_cons_succ, Option.some.injEq, D.int.injEq, D.bl.injEq, exEq, exists_eq_left', if_true, if_false, Bool.false_eq_true, decide_eq_true_eq, Option.isSome_some, true_and, reduceCtorEq, bit_p1, bit_p0, dec_false, dec_true, not_true_p, Int.toNat_natCast, Nat.reduceAdd, Nat.reduceSub, Bool.not_true]
        exact ⟨_, rfl, _, _, rfl⟩
      · simp only [hv, List.length_map, b_nil, b_cons, k_next, k_ret, k_brk, k_cnt, f_for, f_comp, ss_pass, ss_ret, ss_retN, ss_expr, ss_set, ss_tset, ss_sub, ss_sfld, ss_aug, ss_ite, ss_for, ss_whl, ss_brk, ss_cnt, e_slot, e_non, e_bl, e_int, e_str, e_bin, e_neg, e_inv, e_cmp, e_chain, e_and, e_or, e_not, e_ife, e_tup, e_lst, e_call, e_mk, e_bi, e_met, e_om, e_idx, e_slc, e_fld, e_comp, e_frz, t_and, t_or, t_not, t_val, q_none, q_some, es_nil, es_cons, o_none, o_some, i_val, i_rng, i_rng2, i_enum, i_zip, i_rev, a_nm, a_tp, sets_nil, sets_cons, wipe_nil, wipe_cons, tru_bl, tru_int, seq_lst, seq_tup, lst_lst, bi_len, bi_lenT, bi_abs, bi_int, bi_min2, bi_max2, bi_listL, bi_tupleL, bi_sum, W_ok, b_add, b_sub, b_mul, b_div, b_mod, b_pow, b_shl, b_shr, b_and, b_or, b_xor, c_eq, c_ne, c_lt, c_le, c_gt, c_ge, c_eqb, c_neb, c_non, c_isnon, c_isb, c_isnb, endK_ret, endK_next, rf_0, sw_0, rf_1, sw_1, rf_2, sw_2, rf_3, sw_3, rf_4, sw_4, rf_5, sw_5, rf_6, sw_6, rf_7, sw_7, tup_0, lst_0, tup_1, lst_1, tup_2, lst_2, tup_3, lst_3, tup_4, lst_4, tup_5, lst_5, tup_6, lst_6, tup_7, lst_7, endW_ret, endW_next, stepW_next, stepW_cnt, stepW_brk, stepW_ret, List.map_cons, List.map_nil, List.length_cons, List.length_nil, List.replicate, List.cons_append, List.nil_append, List.set_cons_zero, List.set_cons_succ, List.getElem?_cons_zero, List.getElem?_cons_succ, Option.some.injEq, D.int.injEq, D.bl.injEq, exEq, exists_eq_left', if_true, if_false, Bool.false_eq_true, decide_eq_true_eq, Option.isSome_some, true_and, reduceCtorEq, bit_p1, bit_p0, dec_false, dec_true, not_true_p, Int.toNat_natCast, Nat.reduceAdd, Nat.reduceSub, Bool.not_false]
    · simp only [hc, List.length_map, b_nil, b_cons, k_next, k_ret, k_brk, k_cnt, f_for, f_comp, ss_pass, ss_ret, ss_retN, ss_expr, ss_set, ss_tset, ss_sub, ss_sfld, ss_aug, ss_ite, ss_for, ss_whl, ss_brk, ss_cnt, e_slot, e_non, e_bl, e_int, e_str, e_bin, e_neg, e_inv, e_cmp, e_chain, e_and, e_or, e_not, e_ife, e_tup, e_lst, e_call, e_mk, e_bi, e_met, e_om, e_idx, e_slc, e_fld, e_comp, e_frz, t_and, t_or, t_not, t_val, q_none, q_some, es_nil, es_cons, o_none, o_some, i_val, i_rng, i_rng2, i_enum, i_zip, i_rev, a_nm, a_tp, sets_nil, sets_cons, wipe_nil, wipe_cons, tru_bl, tru_int, seq_lst, seq_tup, lst_lst, bi_len, bi_lenT, bi_abs, bi_int, bi_min2, bi_max2, bi_listL, bi_tupleL, bi_sum, W_ok, b_add, b_sub, b_mul, b_div, b_mod, b_pow, b_shl, b_shr, b_and, b_or, b_xor, c_eq, c_ne, c_lt, c_le, c_gt, c_ge, c_eqb, c_neb, c_non, c_isnon, c_isb, c_isnb, endK_ret, endK_next, rf_0, sw_0, rf_1, sw_1, rf_2, sw_2, rf_3, sw_3, rf_4, sw_4, rf_5, sw_5, rf_6, sw_6, rf_7, sw_7, tup_0, lst_0, tup_1, lst_1, tup_2, lst_2, tup_3, lst_3, tup_4, lst_4, tup_5, lst_5, tup_6, lst_6, tup_7, lst_7, endW_ret, endW_next, stepW_next, stepW_cnt, stepW_brk, stepW_ret, List.map_cons, List.map_nil, List.length_cons, List.length_nil, List.replicate, List.cons_append, List.nil_append, List.set_cons_zero, List.set_cons_succ, List.getElem?_cons_zero, List.getElem?_cons_succ, Option.some.injEq, D.int.injEq, D.bl.injEq, exEq, exists_eq_left', if_true, if_false, Bool.false_eq_true, decide_eq_true_eq, Option.isSome_some, true_and, reduceCtorEq, bit_p1, bit_p0, dec_false, dec_true, not_true_p, Int.toNat_natCast, Nat.reduceAdd, Nat.reduceSub, Bool.not_false, Bool.true_or]
      exact ⟨_, rfl, _, _, rfl⟩
  · obtain ⟨x, y, rfl⟩ := h
    simp only [List.length_map, b_nil, b_cons, k_next, k_ret, k_brk, k_cnt, f_for, f_comp, ss_pass, ss_ret, ss_retN, ss_expr, ss_set, ss_tset, ss_sub, ss_sfld, ss_aug, ss_ite, ss_for, ss_whl, ss_brk, ss_cnt, e_slot, e_non, e_bl, e_int, e_str, e_bin, e_neg, e_inv, e_cmp, e_chain, e_and, e_or, e_not, e_ife, e_tup, e_lst, e_call, e_mk, e_bi, e_met, e_om, e_idx, e_slc, e_fld, e_comp, e_frz, t_and, t_or, t_not, t_val, q_none, q_some, es_nil, es_cons, o_none, o_some, i_val, i_rng, i_rng2, i_enum, i_zip, i_rev, a_nm, a_tp, sets_nil, sets_cons, wipe_nil, wipe_cons, tru_bl, tru_int, seq_lst, seq_tup, lst_lst, bi_len, bi_lenT, bi_abs, bi_int, bi_min2, bi_max2, bi_listL, bi_tupleL, bi_sum, W_ok, b_add, b_sub, b_mul, b_div, b_mod, b_pow, b_shl, b_shr, b_and, b_or, b_xor, c_eq, c_ne, c_lt, c_le, c_gt, c_ge, c_eqb, c_neb, c_non, c_isnon, c_isb, c_isnb, endK_ret, endK_next, rf_0, sw_0, rf_1, sw_1, rf_2, sw_2, rf_3, sw_3, rf_4, sw_4, rf_5, sw_5, rf_6, sw_6, rf_7, sw_7, tup_0, lst_0, tup_1, lst_1, tup_2, lst_2, tup_3, lst_3, tup_4, lst_4, tup_5, lst_5, tup_6, lst_6, tup_7, lst_7, endW_ret, endW_next, stepW_next, stepW_cnt, stepW_brk, stepW_ret, List.map_cons, List.map_nil, List.length_cons, List.length_nil, List.replicate, List.cons_append, List.nil_append, List.set_cons_zero, List.set_cons_succ, List.getElem?_cons_zero, List.getElem?_cons_succ, Option.some.injEq, D.int.injEq, D.bl.injEq, exEq, exists_eq_left', if_true, if_false, Bool.false_eq_true, decide_eq_true_eq, Option.isSome_some, true_and, reduceCtorEq, bit_p1, bit_p0, dec_false, dec_true, not_true_p, Int.toNat_natCast, Nat.reduceAdd, Nat.reduceSub]
    rw [show allN N f g n b a d = true from ht]
    exact ret_same rfl
  · simp only [List.length_map, b_nil, b_cons, k_next, k_ret, k_brk, k_cnt, f_for, f_comp, ss_pass, ss_ret, ss_retN, ss_expr, ss_set, ss_tset, ss_sub, ss_sfld, ss_aug, ss_ite, ss_for, ss_whl, ss_brk, ss_cnt, e_slot, e_non, e_bl, e_int, e_str, e_bin, e_neg, e_inv, e_cmp, e_chain, e_and, e_or, e_not, e_ife, e_tup, e_lst, e_call, e_mk, e_bi, e_met, e_om, e_idx, e_slc, e_fld, e_comp, e_frz, t_and, t_or, t_not, t_val, q_none, q_some, es_nil, es_cons, o_none, o_some, i_val, i_rng, i_rng2, i_enum, i_zip, i_rev, a_nm, a_tp, sets_nil, sets_cons, wipe_nil, wipe_cons, tru_bl, tru_int, seq_lst, seq_tup, lst_lst, bi_len, bi_lenT, bi_abs, bi_int, bi_min2, bi_max2, bi_listL, bi_tupleL, bi_sum, W_ok, b_add, b_sub, b_mul, b_div, b_mod, b_pow, b_shl, b_shr, b_and, b_or, b_xor, c_eq, c_ne, c_lt, c_le, c_gt, c_ge, c_eqb, c_neb, c_non, c_isnon, c_isb, c_isnb, endK_ret, endK_next, rf_0, sw_0, rf_1, sw_1, rf_2, sw_2, rf_3, sw_3, rf_4, sw_4, rf_5, sw_5, rf_6, sw_6, rf_7, sw_7, tup_0, lst_0, tup_1, lst_1, tup_2, lst_2, tup_3, lst_3, tup_4, lst_4, tup_5, lst_5, tup_6, lst_6, tup_7, lst_7, endW_ret, endW_next, stepW_next, stepW_cnt, stepW_brk, stepW_ret, List.map_cons, List.map_nil, List.length_cons, List.length_nil, List.replicate, List.cons_append, List.nil_append, List.set_cons_zero, List.set_cons_succ, List.getElem?_cons_zero, List.getElem?_cons_succ, Option.some.injEq, D.int.injEq, D.bl.injEq, exEq, exists_eq_left', if_true, if_false, Bool.false_eq_true, decide_eq_true_eq, Option.isSome_some, true_and, reduceCtorEq, bit_p1, bit_p0, dec_false, dec_true, not_true_p, Int.toNat_natCast, Nat.reduceAdd, Nat.reduceSub]
    rw [show allN N f g n b a d = false from hf]
    exact ret_same rfl
theorem cover_by {N : Nat} {f g c n b a d c' n' b' a' d' : Int} (hN : N ≤ 6) : sem T P (k + 2) 22 [.int (N : Int), mk2 f g, own5 c' n' b' a' d', own5 c n b a d] S = .ok (.bl (allD N f g n' b' a' d' n b a d)) S := by
  rw [← W_iff]
  refine W_run (cf := c22) rfl rfl rfl ?_
  simp only [c22, List.length_map, b_nil, b_cons, k_next, k_ret, k_brk, k_cnt, f_for, f_comp, ss_pass, ss_ret, ss_retN, ss_expr, ss_set, ss_tset, ss_sub, ss_sfld, ss_aug, ss_ite, ss_for, ss_whl, ss_brk, ss_cnt, e_slot, e_non, e_bl, e_int, e_str, e_bin, e_neg, e_inv, e_cmp, e_chain, e_and, e_or, e_not, e_ife, e_tup, e_lst, e_call, e_mk, e_bi, e_met, e_om, e_idx, e_slc, e_fld, e_comp, e_frz, t_and, t_or, t_not, t_val, q_none, q_some, es_nil, es_cons, o_none, o_some, i_val, i_rng, i_rng2, i_enum, i_zip, i_rev, a_nm, a_tp, sets_nil, sets_cons, wipe_nil, wipe_cons, tru_bl, tru_int, seq_lst, seq_tup, lst_lst, bi_len, bi_lenT, bi_abs, bi_int, bi_min2, bi_max2, bi_listL, bi_tupleL, bi_sum, W_ok, b_add, b_sub, b_mul, b_div, b_mod, b_pow, b_shl, b_shr, b_and, b_or, b_xor, c_eq, c_ne, c_lt, c_le, c_gt, c_ge, c_eqb, c_neb, c_non, c_isnon, c_isb, c_isnb, endK_ret, endK_next, rf_0, sw_0, rf_1, sw_1, rf_2, sw_2, rf_3, sw_3, rf_4, sw_4, rf_5, sw_5, rf_6, sw_6, rf_7, sw_7, tup_0, lst_0, tup_1, lst_1, tup_2, lst_2, tup_3, lst_3, tup_4, lst_4, tup_5, lst_5, tup_6, lst_6, tup_7, lst_7, endW_ret, endW_next, stepW_next, stepW_cnt, stepW_brk, stepW_ret, List.map_cons, List.map_nil, List.length_cons, List.length_nil, List.replicate, List.cons_append, List.nil_append, List.set_cons_zero, List.set_cons_succ, List.getElem?_cons_zero, List.getElem?_cons_succ, Option.some.injEq, D.int.injEq, D.bl.injEq, exEq, exists_eq_left', if_true, if_false, Bool.false_eq_true, decide_eq_true_eq, Option.isSome_some, true_and, reduceCtorEq, bit_p1, bit_p0, dec_false, dec_true, not_true_p, Int.toNat_natCast, Nat.reduceAdd, Nat.reduceSub]
  refine ⟨shl1 (by omega), (rg_pow hN).1, ?_⟩
  rw [(rg_pow hN).2]
  refine W_all (p := fun s => !canB n b s || (canB n' b' s && covB f g (nextI a' d' s) (nextI a d s))) (fun σ => ∃ x y, σ = [some (.int (N : Int)), some (mk2 f g), some (own5 c' n' b' a' d'), some (own5 c n b a d), x, y]) ⟨_, _, rfl⟩ (fun j σ hj h => ?_) (fun ht σ h => ?_) (fun hf => ?_)
  · obtain ⟨x, y, rfl⟩ := h
    simp only [List.length_map, b_nil, b_cons, k_next, k_ret, k_brk, k_cnt, f_for, f_comp, ss_pass, ss_ret, ss_retN, ss_expr, ss_set, ss_tset, ss_sub, ss_sfld, ss_aug, ss_ite, ss_for, ss_whl, ss_brk, ss_cnt, e_slot, e_non, e_bl, e_int, e_str, e_bin, e_neg, e_inv, e_cmp, e_chain, e_and, e_or, e_not, e_ife, e_tup, e_lst, e_call, e_mk, e_bi, e_met, e_om, e_idx, e_slc, e_fld, e_comp, e_frz, t_and, t_or, t_not, t_val, q_none, q_some, es_nil, es_cons, o_none, o_some, i_val, i_rng, i_rng2, i_enum, i_zip, i_rev, a_nm, a_tp, sets_nil, sets_cons, wipe_nil, wipe_cons, tru_bl, tru_int, seq_lst, seq_tup, lst_lst, bi_len, bi_lenT, bi_abs, bi_int, bi_min2, bi_max2, bi_listL, bi_tupleL, bi_sum, W_ok, b_add, b_sub, b_mul, b_div, b_mod, b_pow, b_shl, b_shr, b_and, b_or, b_xor, c_eq, c_ne, c_lt, c_le, c_gt, c_ge, c_eqb, c_neb, c_non, c_isnon, c_isb, c_isnb, endK_ret, endK_next, rf_0, sw_0, rf_1, sw_1, rf_2, sw_2, rf_3, sw_3, rf_4, sw_4, rf_5, sw_5, rf_6, sw_6, rf_7, sw_7, tup_0, lst_0, tup_1, lst_1, tup_2, lst_2, tup_3, lst_3, tup_4, lst_4, tup_5, lst_5, tup_6, lst_6, tup_7, lst_7, endW_ret, endW_next, stepW_next, stepW_cnt, stepW_brk, stepW_ret, List.map_cons, List.map_nil, List.length_cons, List.length_nil, List.replicate, List.cons_append, List.nil_append, List.set_cons_zero, List.set_cons_succ, List.getElem?_cons_zero, List.getElem?_cons_succ, Option.some.injEq, D.int.injEq, D.bl.injEq, exEq, exists_eq_left', if_true, if_false, Bool.false_eq_true, decide_eq_true_eq, Option.isSome_some, true_and, reduceCtorEq, bit_p1, bit_p0, dec_false, dec_true, not_true_p, Int.toNat_natCast, Nat.reduceAdd, Nat.reduceSub, can_ok]
    by_cases hc : canB n b j = true
    · simp only [hc, List.length_map, b_nil, b_cons, k_next, k_ret, k_brk, k_cnt, f_for, f_comp, ss_pass, ss_ret, ss_retN, ss_expr, ss_set, ss_tset, ss_sub, ss_sfld, ss_aug, ss_ite, ss_for, ss_whl, ss_brk, ss_cnt, e_slot, e_non, e_bl, e_int, e_str, e_bin, e_neg, e_inv, e_cmp, e_chain, e_and, e_or, e_not, e_ife, e_tup, e_lst, e_call, e_mk, e_bi, e_met, e_om, e_idx, e_slc, e_fld, e_comp, e_frz, t_and, t_or, t_not, t_val, q_none, q_some, es_nil, es_cons, o_none, o_some, i_val, i_rng, i_rng2, i_enum, i_zip, i_rev, a_nm, a_tp, sets_nil, sets_cons, wipe_nil, wipe_cons, tru_bl, tru_int, seq_lst, seq_tup, lst_lst, bi_len, bi_lenT, bi_abs, bi_int, bi_min2, bi_max2, bi_listL, bi_tupleL, bi_sum, W_ok, b_add, b_sub, b_mul, b_div, b_mod, b_pow, b_shl, b_shr, b_and, b_or, b_xor, c_eq, c_ne, c_lt, c_le, c_gt, c_ge, c_eqb, c_neb, c_non, c_isnon, c_isb, c_isnb, endK_ret, endK_next, rf_0, sw_0, rf_1, sw_1, rf_2, sw_2, rf_3, sw_3, rf_4, sw_4, rf_5, sw_5, rf_6, sw_6, rf_7, sw_7, tup_0, lst_0, tup_1, lst_1, tup_2, lst_2, tup_3, lst_3, tup_4, lst_4, tup_5, lst_5, tup_6, lst_6, tup_7, lst_7, endW_ret, endW_next, stepW_next, stepW_cnt, stepW_brk, stepW_ret, List.map_cons, List.map_nil, List.length_cons, List.length_nil, List.replicate, List.cons_append, List.nil_append, List.set_cons_zero, List.set_cons_succ, List.getElem?_cons_zero, List.getElem?_cons_succ, Option.some.injEq, D.int.injEq, D.bl.injEq, exEq, exists_eq_left', if_true, if_false, Bool.false_eq_true, decide_eq_true_eq, Option.isSome_some, true_and, reduceCtorEq, bit_p1, bit_p0, dec_false, dec_true, not_true_p, Int.toNat_natCast, Nat.reduceAdd, Nat.reduceSub, decide_false, Bool.not_false, can_ok, Bool.not_true, Bool.false_or]
      by_cases hc' : canB n' b' j = true
      · simp only [hc', List.length_map, b_nil, b_cons, k_next, k_ret, k_brk, k_cnt, f_for, f_comp, ss_pass, ss_ret, ss_retN, ss_expr, ss_set, ss_tset, ss_sub, ss_sfld, ss_aug, ss_ite, ss_for, ss_whl, ss_brk, ss_cnt, e_slot, e_non, e_bl, e_int, e_str, e_bin, e_neg, e_inv, e_cmp, e_chain, e_and, e_or, e_not, e_ife, e_tup, e_lst, e_call, e_mk, e_bi, e_met, e_om, e_idx, e_slc, e_fld, e_comp, e_frz, t_and, t_or, t_not, t_val, q_none, q_some, es_nil, es_cons, o_none, o_some, i_val, i_rng, i_rng2, i_enum, i_zip, i_rev, a_nm, a_tp, sets_nil, sets_cons, wipe_nil, wipe_cons, tru_bl, tru_int, seq_lst, seq_tup, lst_lst, bi_len, bi_lenT, bi_abs, bi_int, bi_min2, bi_max2, bi_listL, bi_tupleL, bi_sum, W_ok, b_add, b_sub, b_mul, b_div, b_mod, b_pow, b_shl, b_shr, b_and, b_or, b_xor, c_eq, c_ne, c_lt, c_le, c_gt, c_ge, c_eqb, c_neb, c_non, c_isnon, c_isb, c_isnb, endK_ret, endK_next, rf_0, sw_0, rf_1, sw_1, rf_2, sw_2, rf_3, sw_3, rf_4, sw_4, rf_5, sw_5, rf_6, sw_6, rf_7, sw_7, tup_0, lst_0, tup_1, lst_1, tup_2, lst_2, tup_3, lst_3, tup_4, lst_4, tup_5, lst_5, tup_6, lst_6, tup_7, lst_7, endW_ret, endW_next, stepW_next, stepW_cnt, stepW_brk, stepW_ret, List.map_cons, List.map_nil, List.length_cons, List.length_nil, List.replicate, List.cons_append, List.nil_append, List.set_cons_zero, List.set_cons_succ, List.getElem?_cons_zero, List.getElem?_cons_succ, Option.some.injEq, D.int.injEq, D.bl.injEq, exEq, exists_eq_left', if_true, if_false, Bool.false_eq_true, decide_eq_true_eq, Option.isSome_some, true_and, reduceCtorEq, bit_p1, bit_p0, dec_false, dec_true, not_true_p, Int.toNat_natCast, Nat.reduceAdd, Nat.reduceSub, Bool.not_true, next_ok, cov_ok, Bool.true_and]
        by_cases hv : covB f g (nextI a' d' j) (nextI a d j) = true
        · simp only [hv, List.length_map, b_nil, b_cons, k_next, k_ret, k_brk, k_cnt, f_for, f_comp, ss_pass, ss_ret, ss_retN, ss_expr, ss_set, ss_tset, ss_sub, ss_sfld, ss_aug, ss_ite, ss_for, ss_whl, ss_brk, ss_cnt, e_slot, e_non, e_bl, e_int, e_str, e_bin, e_neg, e_inv, e_cmp, e_chain, e_and, e_or, e_not, e_ife, e_tup, e_lst, e_call, e_mk, e_bi, e_met, e_om, e_idx, e_slc, e_fld, e_comp, e_frz, t_and, t_or, t_not, t_val, q_none, q_some, es_nil, es_cons, o_none, o_some, i_val, i_rng, i_rng2, i_enum, i_zip, i_rev, a_nm, a_tp, sets_nil, sets_cons, wipe_nil, wipe_cons, tru_bl, tru_int, seq_lst, seq_tup, lst_lst, bi_len, bi_lenT, bi_abs, bi_int, bi_min2, bi_max2, bi_listL, bi_tupleL, bi_sum, W_ok, b_add, b_sub, b_mul, b_div, b_mod, b_pow, b_shl, b_shr, b_and, b_or, b_xor, c_eq, c_ne, c_lt, c_le, c_gt, c_ge, c_eqb, c_neb, c_non, c_isnon, c_isb, c_isnb, endK_ret, endK_next, rf_0, sw_0, rf_1, sw_1, rf_2, sw_2, rf_3, sw_3, rf_4, sw_4, rf_5, sw_5, rf_6, sw_6, rf_7, sw_7, tup_0, lst_0, tup_1, lst_1, tup_2, lst_2, tup_3, lst_3, tup_4, lst_4, tup_5, lst_5, tup_6, lst_6, tup_7, lst_7, endW_ret, endW_next, stepW_next, stepW_cnt, stepW_brk, stepW_ret, List.map_cons, List.map_nil, List.length_cons, List.length_nil, List.replicate, List.cons_append, List.nil_append, List.set_cons_zero, List.set_cons_succ, List.getElem?_cons_zero, List.getElem?_cons_succ, Option.some.injEq, D.int.injEq, D.bl.injEq, exEq, exists_eq_left', if_true, if_false, Bool.false_eq_true, decide_eq_true_eq, Option.isSome_some, true_and, reduceCtorEq, bit_p1, bit_p0, dec_false, dec_true, not_true_p, Int.toNat_natCast, Nat.reduceAdd, Nat.reduceSub, Bool.not_true]
          exact ⟨_, rfl, _, _, rfl⟩
        · simp only [hv, List.length_map, b_nil, b_cons, k_next, k_ret, k_brk, k_cnt, f_for, f_comp, ss_pass, ss_ret, ss_retN, ss_expr, ss_set, ss_tset, ss_sub, ss_sfld, ss_aug, ss_ite, ss_for, ss_whl, ss_brk, ss_cnt, e_slot, e_non, e_bl, e_int, e_str, e_bin, e_neg, e_inv, e_cmp, e_chain, e_and, e_or, e_not, e_ife, e_tup, e_lst, e_call, e_mk, e_bi, e_met, e_om, e_idx, e_slc, e_fld, e_comp, e_frz, t_and, t_or, t_not, t_val, q_none, q_some, es_nil, es_cons, o_none, o_some, i_val, i_rng, i_rng2, i_enum, i_zip, i_rev, a_nm, a_tp, sets_nil, sets_cons, wipe_nil, wipe_cons, tru_bl, tru_int, seq_lst, seq_tup, lst_lst, bi_len, bi_lenT, bi_abs, bi_int, bi_min2, bi_max2, bi_listL, bi_tupleL, bi_sum, W_ok, b_add, b_sub, b_mul, b_div, b_mod, b_pow, b_shl, b_shr, b_and, b_or, b_xor, c_eq, c_ne, c_lt, c_le, c_gt, c_ge, c_eqb, c_neb, c_non, c_isnon, c_isb, c_isnb, endK_ret, endK_next, rf_0, sw_0, rf_1, sw_1, rf_2, sw_2, rf_3, sw_3, rf_4, sw_4, rf_5, sw_5, rf_6, sw_6, rf_7, sw_7, tup_0, lst_0, tup_1, lst_1, tup_2, lst_2, tup_3, lst_3, tup_4, lst_4, tup_5, lst_5, tup_6, lst_6, tup_7, lst_7, endW_ret, endW_next, stepW_next, stepW_cnt, stepW_brk, stepW_ret, List.map_cons, List.map_nil, List.length_cons, List.length_nil, List.replicate, List.cons_append, List.nil_append, List.set_cons_zero, List.set_cons_succ, List.getElem?_cons_zero, List.getElem?_cons_succ, Option.some.injEq, D.int.injEq, D.bl.injEq, exEq, exists_eq_left', if_true, if_false, Bool.false_eq_true, decide_eq_true_eq, Option.isSome_some, true_and, reduceCtorEq, bit_p1, bit_p0, dec_false, dec_true, not_true_p, Int.toNat_natCast, Nat.reduceAdd, Nat.reduceSub, Bool.not_false]
      · simp only [hc', List.length_map, b_nil, b_cons, k_next, k_ret, k_brk, k_cnt, f_for, f_comp, ss_pass, ss_ret, ss_retN, ss_expr, ss_set, ss_tset, ss_sub, ss_sfld, ss_aug, ss_ite, ss_for, ss_whl, ss_brk, ss_cnt, e_slot, e_non, e_bl, e_int, e_str, e_bin, e_neg, e_inv, e_cmp, e_chain, e_and, e_or, e_not, e_ife, e_tup, e_lst, e_call, e_mk, e_bi, e_met, e_om, e_idx, e_slc, e_fld, e_comp, e_frz, t_and, t_or, t_not, t_val, q_none, q_some, es_nil, es_cons, o_none, o_some, i_val, i_rng, i_rng2, i_enum, i_zip, i_rev, a_nm, a_tp, sets_nil, sets_cons, wipe_nil, wipe_cons, tru_bl, tru_int, seq_lst, seq_tup, lst_lst, bi_len, bi_lenT, bi_abs, bi_int, bi_min2, bi_max2, bi_listL, bi_tupleL, bi_sum, W_ok, b_add, b_sub, b_mul, b_div, b_mod, b_pow, b_shl, b_shr, b_and, b_or, b_xor, c_eq, c_ne, c_lt, c_le, c_gt, c_ge, c_eqb, c_neb, c_non, c_isnon, c_isb, c_isnb, endK_ret, endK_next, rf_0, sw_0, rf_1, sw_1, rf_2, sw_2, rf_3, sw_3, rf_4, sw_4, rf_5, sw_5, rf_6, sw_6, rf_7, sw_7, tup_0, lst_0, tup_1, lst_1, tup_2, lst_2, tup_3, lst_3, tup_4, lst_4, tup_5, lst_5, tup_6, lst_6, tup_7, lst_7, endW_ret, endW_next, stepW_next, stepW_cnt, stepW_brk, stepW_ret, List.map_cons, List.map_nil, List.length_cons, List.length_nil, List.replicate, List.cons_append, List.nil_append, List.set_cons_zero, List.set_cons_succ, List.getElem?_cons_zero, List.getElem?_cons_succ, Option.some.injEq, D.int.injEq, D.bl.injEq, exEq, exists_eq_left', if_true, if_false, Bool.false_eq_true, decide_eq_true_eq, Option.isSome_some, true_and, reduceCtorEq, bit_p1, bit_p0, dec_false, dec_true, not_true_p, Int.toNat_natCast, Nat.reduceAdd, Nat.reduceSub, Bool.not_false, Bool.false_and]
    · simp only [hc, List.length_map, b_nil, b_cons, k_next, k_ret, k_brk, k_cnt, f_for, f_comp, ss_pass, ss_ret, ss_retN, ss_expr, ss_set, ss_tset, ss_sub, ss_sfld, ss_aug, ss_ite, ss_for, ss_whl, ss_brk, ss_cnt, e_slot, e_non, e_bl, e_int, e_str, e_bin, e_neg, e_inv, e_cmp, e_chain, e_and, e_or, e_not, e_ife, e_tup, e_lst, e_call, e_mk, e_bi, e_met, e_om, e_idx, e_slc, e_fld, e_comp, e_frz, t_and, t_or, t_not, t_val, q_none, q_some, es_nil, es_cons, o_none, o_some, i_val, i_rng, i_rng2, i_enum, i_zip, i_rev, a_nm, a_tp, sets_nil, sets_cons, wipe_nil, wipe_cons, tru_bl, tru_int, seq_lst, seq_tup, lst_lst, bi_len, bi_lenT, bi_abs, bi_int, bi_min2, bi_max2, bi_listL, bi_tupleL, bi_sum, W_ok, b_add, b_sub, b_mul, b_div, b_mod, b_pow, b_shl, b_shr, b_and, b_or, b_xor, c_eq, c_ne, c_lt, c_le, c_gt, c_ge, c_eqb, c_neb, c_non, c_isnon, c_isb, c_isnb, endK_ret, endK_next, rf_0, sw_0, rf_1, sw_1, rf_2, sw_2, rf_3, sw_3, rf_4, sw_4, rf_5, sw_5, rf_6, sw_6, rf_7, sw_7, tup_0, lst_0, tup_1, lst_1, tup_2, lst_2, tup_3, lst_3, tup_4, lst_4, tup_5, lst_5, tup_6, lst_6, tup_7, lst_7, endW_ret, endW_next, stepW_next, stepW_cnt, stepW_brk, stepW_ret, List.map_cons, List.map_nil, List.length_cons, List.length_nil, List.replicate, List.cons_append, List.nil_append, List.set_cons_zero, List.set_cons_succ, List.getElem?_cons_zero, List.getElem?_cons_succ, Option.some.injEq, D.int.injEq, D.bl.injEq, exEq, exists_eq_left', if_true, if_false, Bool.false_eq_true, decide_eq_true_eq, Option.isSome_some, true_and, reduceCtorEq, bit_p1, bit_p0, dec_false, dec_true, not_true_p, Int.toNat_natCast, Nat.reduceAdd, Nat.reduceSub, Bool.not_false, Bool.true_or]
      exact ⟨_, rfl, _, _, rfl⟩
  · obtain ⟨x, y, rfl⟩ := h
    simp only [List.length_map, b_nil, b_cons, k_next, k_ret, k_brk, k_cnt, f_for, f_comp, ss_pass, ss_ret, ss_retN, ss_expr, ss_set, ss_tset, ss_sub, ss_sfld, ss_aug, ss_ite, ss_for, ss_whl, ss_brk, ss_cnt, e_slot, e_non, e_bl, e_int, e_str, e_bin, e_neg, e_inv, e_cmp, e_chain, e_and, e_or, e_not, e_ife, e_tup, e_lst, e_call, e_mk, e_bi, e_met, e_om, e_idx, e_slc, e_fld, e_comp, e_frz, t_and, t_or, t_not, t_val, q_none, q_some, es_nil, es_cons, o_none, o_some, i_val, i_rng, i_rng2, i_enum, i_zip, i_rev, a_nm, a_tp, sets_nil, sets_cons, wipe_nil, wipe_cons, tru_bl, tru_int, seq_lst, seq_tup, lst_lst, bi_len, bi_lenT, bi_abs, bi_int, bi_min2, bi_max2, bi_listL, bi_tupleL, bi_sum, W_ok, b_add, b_sub, b_mul, b_div, b_mod, b_pow, b_shl, b_shr, b_and, b_or, b_xor, c_eq, c_ne, c_lt, c_le, c_gt, c_ge, c_eqb, c_neb, c_non, c_isnon, c_isb, c_isnb, endK_ret, endK_next, rf_0, sw_0, rf_1, sw_1, rf_2, sw_2, rf_3, sw_3, rf_4, sw_4, rf_5, sw_5, rf_6, sw_6, rf_7, sw_7, tup_0, lst_0, tup_1, lst_1, tup_2, lst_2, tup_3, lst_3, tup_4, lst_4, tup_5, lst_5, tup_6, lst_6, tup_7, lst_7, endW_ret, endW_next, stepW_next, stepW_cnt, stepW_brk, stepW_ret, List.map_cons, List.map_nil, List.length_cons, List.length_nil, List.replicate, List.cons_append, List.nil_append, List.set_cons_zero, List.set_cons_succ, List.getElem?_cons_zero, List.getElem?_cons_succ, Option.some.injEq, D.int.injEq, D.bl.injEq, exEq, exists_eq_left', if_true, if_false, Bool.false_eq_true, decide_eq_true_eq, Option.isSome_some, true_and, reduceCtorEq, bit_p1, bit_p0, dec_false, dec_true, not_true_p, Int.toNat_natCast, Nat.reduceAdd, Nat.reduceSub]
    rw [show allD N f g n' b' a' d' n b a d = true from ht]
    exact ret_same rfl
  · simp only [List.length_map, b_nil, b_cons, k_next, k_ret, k_brk, k_cnt, f_for, f_comp, ss_pass, ss_ret, ss_retN, ss_expr, ss_set, ss_tset, ss_sub, ss_sfld, ss_aug, ss_ite, ss_for, ss_whl, ss_brk, ss_cnt, e_slot, e_non, e_bl, e_int, e_str, e_bin, e_neg, e_inv, e_cmp, e_chain, e_and, e_or, e_not, e_ife, e_tup, e_lst, e_call, e_mk, e_bi, e_met, e_om, e_idx, e_slc, e_fld, e_comp, e_frz, t_and, t_or, t_not, t_val, q_none, q_some, es_nil, es_cons, o_none, o_some, i_val, i_rng, i_rng2, i_enum, i_zip, i_rev, a_nm, a_tp, sets_nil, sets_cons, wipe_nil, wipe_cons, tru_bl, tru_int, seq_lst, seq_tup, lst_lst, bi_len, bi_lenT, bi_abs, bi_int, bi_min2, bi_max2, bi_listL, bi_tupleL, bi_sum, W_ok, b_add, b_sub, b_mul, b_div, b_mod, b_pow, b_shl, b_shr, b_and, b_or, b_xor, c_eq, c_ne, c_lt, c_le, c_gt, c_ge, c_eqb, c_neb, c_non, c_isnon, c_isb, c_isnb, endK_ret, endK_next, rf_0, sw_0, rf_1, sw_1, rf_2, sw_2, rf_3, sw_3, rf_4, sw_4, rf_5, sw_5, rf_6, sw_6, rf_7, sw_7, tup_0, lst_0, tup_1, lst_1, tup_2, lst_2, tup_3, lst_3, tup_4, lst_4, tup_5, lst_5, tup_6, lst_6, tup_7, lst_7, endW_ret, endW_next, stepW_next, stepW_cnt, stepW_brk, stepW_ret, List.map_cons, List.map_nil, List.length_cons, List.length_nil, List.replicate, List.cons_append, List.nil_append, List.set_cons_zero, List.set_cons_succ, List.getElem?_cons_zero, List.getElem?_cons_succ, Option.some.injEq, D.int.injEq, D.bl.injEq, exEq, exists_eq_left', if_true, if_false, Bool.false_eq_true, decide_eq_true_eq, Option.isSome_some, true_and, reduceCtorEq, bit_p1, bit_p0, dec_false, dec_true, not_true_p, Int.toNat_natCast, Nat.reduceAdd, Nat.reduceSub]
    rw [show allD N f g n' b' a' d' n b a d = false from hf]
    exact ret_same rfl
end
end K19
namespace K19
open PySem Py
open Builtin (bitAnd bitOr bitNot bitXor)
theorem P6 : P 6 = some cTake := rfl
theorem P8 : P 8 = some (cSame 8) := rfl
theorem placed_ok {k : Nat} {S : Sto} {m : Int} {d : D} {pl : List Nat} (hd : seqOf S d = some (nl pl)) (hl : pl.length ≤ 64) (hlt : ∀ i, i < pl.length → pl.getD i 0 < 64) : sem T P (k + 1) 18 [.int m, d] S = .ok (.int (plc m pl pl.length)) S := by
  rw [← W_iff]
  refine W_run (cf := c18) rfl rfl rfl ?_
  simp only [c18, List.length_map, b_nil, b_cons, k_next, k_ret, k_brk, k_cnt, f_for, f_comp, ss_pass, ss_ret, ss_retN, ss_expr, ss_set, ss_tset, ss_sub, ss_sfld, ss_aug, ss_ite, ss_for, ss_whl, ss_brk, ss_cnt, e_slot, e_non, e_bl, e_int, e_str, e_bin, e_neg, e_inv, e_cmp, e_chain, e_and, e_or, e_not, e_ife, e_tup, e_lst, e_call, e_mk, e_bi, e_met, e_om, e_idx, e_slc, e_fld, e_comp, e_frz, t_and, t_or, t_not, t_val, q_none, q_some, es_nil, es_cons, o_none, o_some, i_val, i_rng, i_rng2, i_enum, i_zip, i_rev, a_nm, a_tp, sets_nil, sets_cons, wipe_nil, wipe_cons, tru_bl, tru_int, seq_lst, seq_tup, lst_lst, bi_len, bi_lenT, bi_abs, bi_int, bi_min2, bi_max2, bi_listL, bi_tupleL, bi_sum, W_ok, b_add, b_sub, b_mul, b_div, b_mod, b_pow, b_shl, b_shr, b_and, b_or, b_xor, c_eq, c_ne, c_lt, c_le, c_gt, c_ge, c_eqb, c_neb, c_non, c_isnon, c_isb, c_isnb, endK_ret, endK_next, rf_0, sw_0, rf_1, sw_1, rf_2, sw_2, rf_3, sw_3, rf_4, sw_4, rf_5, sw_5, rf_6, sw_6, rf_7, sw_7, tup_0, lst_0, tup_1, lst_1, tup_2, lst_2, tup_3, lst_3, tup_4, lst_4, tup_5, lst_5, tup_6, lst_6, tup_7, lst_7, endW_ret, endW_next, stepW_next, stepW_cnt, stepW_brk, stepW_ret, List.map_cons, List.map_nil, List.length_cons, List.length_nil, List.replicate, List.cons_append, List.nil_append, List.set_cons_zero, List.set_cons_succ, List.getElem?_cons_zero, List.getElem?_cons_succ, Option.some.injEq, D.int.injEq, D.bl.injEq, exEq, exists_eq_left', if_true, if_false, Bool.false_eq_true, decide_eq_true_eq, Option.isSome_some, true_and, reduceCtorEq, bit_p1, bit_p0, dec_false, dec_true, not_true_p, Int.toNat_natCast, Nat.reduceAdd, Nat.reduceSub, bi_lenS hd]
  refine ⟨⟨by omega, by omega⟩, ?_⟩
  refine W_forR0 (fun i σ S' => ∃ x, σ = [some (.int m), some d, some (.int (plc m pl i)), x] ∧ S' = S) ⟨_, rfl, rfl⟩ (fun i σ S' hi h => ?_) (fun σ S' h => ?_)
  · obtain ⟨x, rfl, rfl⟩ := h
    simp only [List.length_map, b_nil, b_cons, k_next, k_ret, k_brk, k_cnt, f_for, f_comp, ss_pass, ss_ret, ss_retN, ss_expr, ss_set, ss_tset, ss_sub, ss_sfld, ss_aug, ss_ite, ss_for, ss_whl, ss_brk, ss_cnt, e_slot, e_non, e_bl, e_int, e_str, e_bin, e_neg, e_inv, e_cmp, e_chain, e_and, e_or, e_not, e_ife, e_tup, e_lst, e_call, e_mk, e_bi, e_met, e_om, e_idx, e_slc, e_fld, e_comp, e_frz, t_and, t_or, t_not, t_val, q_none, q_some, es_nil, es_cons, o_none, o_some, i_val, i_rng, i_rng2, i_enum, i_zip, i_rev, a_nm, a_tp, sets_nil, sets_cons, wipe_nil, wipe_cons, tru_bl, tru_int, seq_lst, seq_tup, lst_lst, bi_len, bi_lenT, bi_abs, bi_int, bi_min2, bi_max2, bi_listL, bi_tupleL, bi_sum, W_ok, b_add, b_sub, b_mul, b_div, b_mod, b_pow, b_shl, b_shr, b_and, b_or, b_xor, c_eq, c_ne, c_lt, c_le, c_gt, c_ge, c_eqb, c_neb, c_non, c_isnon, c_isb, c_isnb, endK_ret, endK_next, rf_0, sw_0, rf_1, sw_1, rf_2, sw_2, rf_3, sw_3, rf_4, sw_4, rf_5, sw_5, rf_6, sw_6, rf_7, sw_7, tup_0, lst_0, tup_1, lst_1, tup_2, lst_2, tup_3, lst_3, tup_4, lst_4, tup_5, lst_5, tup_6, lst_6, tup_7, lst_7, endW_ret, endW_next, stepW_next, stepW_cnt, stepW_brk, stepW_ret, List.map_cons, List.map_nil, List.length_cons, List.length_nil, List.replicate, List.cons_append, List.nil_append, List.set_cons_zero, List.set_cons_succ, List.getElem?_cons_zero, List.getElem?_cons_succ, Option.some.injEq, D.int.injEq, D.bl.injEq, exEq, exists_eq_left', if_true, if_false, Bool.false_eq_true, decide_eq_true_eq, Option.isSome_some, true_and, reduceCtorEq, bit_p1, bit_p0, dec_false, dec_true, not_true_p, Int.toNat_natCast, Nat.reduceAdd, Nat.reduceSub]
    refine ⟨by omega, ?_⟩
    cases hb : ib m i with
    | true =>
      have g : (nl pl)[i]? = some (.int ((pl.getD i 0 : Nat) : Int)) := by simp [hi]
      have e1 : plc m pl (i + 1) = bitOr (plc m pl i) (1 * 2 ^ (pl.getD i 0)) := by rw [plc, if_pos hb]
      simp only [List.length_map, b_nil, b_cons, k_next, k_ret, k_brk, k_cnt, f_for, f_comp, ss_pass, ss_ret, ss_retN, ss_expr, ss_set, ss_tset, ss_sub, ss_sfld, ss_aug, ss_ite, ss_for, ss_whl, ss_brk, ss_cnt, e_slot, e_non, e_bl, e_int, e_str, e_bin, e_neg, e_inv, e_cmp, e_chain, e_and, e_or, e_not, e_ife, e_tup, e_lst, e_call, e_mk, e_bi, e_met, e_om, e_idx, e_slc, e_fld, e_comp, e_frz, t_and, t_or, t_not, t_val, q_none, q_some, es_nil, es_cons, o_none, o_some, i_val, i_rng, i_rng2, i_enum, i_zip, i_rev, a_nm, a_tp, sets_nil, sets_cons, wipe_nil, wipe_cons, tru_bl, tru_int, seq_lst, seq_tup, lst_lst, bi_len, bi_lenT, bi_abs, bi_int, bi_min2, bi_max2, bi_listL, bi_tupleL, bi_sum, W_ok, b_add, b_sub, b_mul, b_div, b_mod, b_pow, b_shl, b_shr, b_and, b_or, b_xor, c_eq, c_ne, c_lt, c_le, c_gt, c_ge, c_eqb, c_neb, c_non, c_isnon, c_isb, c_isnb, endK_ret, endK_next, rf_0, sw_0, rf_1, sw_1, rf_2, sw_2, rf_3, sw_3, rf_4, sw_4, rf_5, sw_5, rf_6, sw_6, rf_7, sw_7, tup_0, lst_0, tup_1, lst_1, tup_2, lst_2, tup_3, lst_3, tup_4, lst_4, tup_5, lst_5, tup_6, lst_6, tup_7, lst_7, endW_ret, endW_next, stepW_next, stepW_cnt, stepW_brk, stepW_ret, List.map_cons, List.map_nil, List.length_cons, List.length_nil, List.replicate, List.cons_append, List.nil_append, List.set_cons_zero, List.set_cons_succ, List.getElem?_cons_zero, List.getElem?_cons_succ, Option.some.injEq, D.int.injEq, D.bl.injEq, exEq, exists_eq_left', if_true, if_false, Bool.false_eq_true, decide_eq_true_eq, Option.isSome_some, true_and, reduceCtorEq, bit_p1, bit_p0, dec_false, dec_true, not_true_p, Int.toNat_natCast, Nat.reduceAdd, Nat.reduceSub, idx_S hd g, e1]
      exact ⟨shl1 (by have := hlt i hi; omega), _, rfl, by trivial⟩
    | false =>
      have e1 : plc m pl (i + 1) = plc m pl i := by rw [plc, if_neg (by simp [hb])]
      simp only [List.length_map, b_nil, b_cons, k_next, k_ret, k_brk, k_cnt, f_for, f_comp, ss_pass, ss_ret, ss_retN, ss_expr, ss_set, ss_tset, ss_sub, ss_sfld, ss_aug, ss_ite, ss_for, ss_whl, ss_brk, ss_cnt, e_slot, e_non, e_bl, e_int, e_str, e_bin, e_neg, e_inv, e_cmp, e_chain, e_and, e_or, e_not, e_ife, e_tup, e_lst, e_call, e_mk, e_bi, e_met, e_om, e_idx, e_slc, e_fld, e_comp, e_frz, t_and, t_or, t_not, t_val, q_none, q_some, es_nil, es_cons, o_none, o_some, i_val, i_rng, i_rng2, i_enum, i_zip, i_rev, a_nm, a_tp, sets_nil, sets_cons, wipe_nil, wipe_cons, tru_bl, tru_int, seq_lst, seq_tup, lst_lst, bi_len, bi_lenT, bi_abs, bi_int, bi_min2, bi_max2, bi_listL, bi_tupleL, bi_sum, W_ok, b_add, b_sub, b_mul, b_div, b_mod, b_pow, b_shl, b_shr, b_and, b_or, b_xor, c_eq, c_ne, c_lt, c_le, c_gt, c_ge, c_eqb, c_neb, c_non, c_isnon, c_isb, c_isnb, endK_ret, endK_next, rf_0, sw_0, rf_1, sw_1, rf_2, sw_2, rf_3, sw_3, rf_4, sw_4, rf_5, sw_5, rf_6, sw_6, rf_7, sw_7, tup_0, lst_0, tup_1, lst_1, tup_2, lst_2, tup_3, lst_3, tup_4, lst_4, tup_5, lst_5, tup_6, lst_6, tup_7, lst_7, endW_ret, endW_next, stepW_next, stepW_cnt, stepW_brk, stepW_ret, List.map_cons, List.map_nil, List.length_cons, List.length_nil, List.replicate, List.cons_append, List.nil_append, List.set_cons_zero, List.set_cons_succ, List.getElem?_cons_zero, List.getElem?_cons_succ, Option.some.injEq, D.int.injEq, D.bl.injEq, exEq, exists_eq_left', if_true, if_false, Bool.false_eq_true, decide_eq_true_eq, Option.isSome_some, true_and, reduceCtorEq, bit_p1, bit_p0, dec_false, dec_true, not_true_p, Int.toNat_natCast, Nat.reduceAdd, Nat.reduceSub, e1]
      exact ⟨_, rfl, by trivial⟩
  · obtain ⟨x, rfl, rfl⟩ := h
    simp only [List.length_map, b_nil, b_cons, k_next, k_ret, k_brk, k_cnt, f_for, f_comp, ss_pass, ss_ret, ss_retN, ss_expr, ss_set, ss_tset, ss_sub, ss_sfld, ss_aug, ss_ite, ss_for, ss_whl, ss_brk, ss_cnt, e_slot, e_non, e_bl, e_int, e_str, e_bin, e_neg, e_inv, e_cmp, e_chain, e_and, e_or, e_not, e_ife, e_tup, e_lst, e_call, e_mk, e_bi, e_met, e_om, e_idx, e_slc, e_fld, e_comp, e_frz, t_and, t_or, t_not, t_val, q_none, q_some, es_nil, es_cons, o_none, o_some, i_val, i_rng, i_rng2, i_enum, i_zip, i_rev, a_nm, a_tp, sets_nil, sets_cons, wipe_nil, wipe_cons, tru_bl, tru_int, seq_lst, seq_tup, lst_lst, bi_len, bi_lenT, bi_abs, bi_int, bi_min2, bi_max2, bi_listL, bi_tupleL, bi_sum, W_ok, b_add, b_sub, b_mul, b_div, b_mod, b_pow, b_shl, b_shr, b_and, b_or, b_xor, c_eq, c_ne, c_lt, c_le, c_gt, c_ge, c_eqb, c_neb, c_non, c_isnon, c_isb, c_isnb, endK_ret, endK_next, rf_0, sw_0, rf_1, sw_1, rf_2, sw_2, rf_3, sw_3, rf_4, sw_4, rf_5, sw_5, rf_6, sw_6, rf_7, sw_7, tup_0, lst_0, tup_1, lst_1, tup_2, lst_2, tup_3, lst_3, tup_4, lst_4, tup_5, lst_5, tup_6, lst_6, tup_7, lst_7, endW_ret, endW_next, stepW_next, stepW_cnt, stepW_brk, stepW_ret, List.map_cons, List.map_nil, List.length_cons, List.length_nil, List.replicate, List.cons_append, List.nil_append, List.set_cons_zero, List.set_cons_succ, List.getElem?_cons_zero, List.getElem?_cons_succ, Option.some.injEq, D.int.injEq, D.bl.injEq, exEq, exists_eq_left', if_true, if_false, Bool.false_eq_true, decide_eq_true_eq, Option.isSome_some, true_and, reduceCtorEq, bit_p1, bit_p0, dec_false, dec_true, not_true_p, Int.toNat_natCast, Nat.reduceAdd, Nat.reduceSub]
    exact ret_same rfl
theorem init_ok {k : Nat} {S : Sto} {x0 x2 x3 x4 x5 x6 x7 : D} {xs : List D} : sem T P (k + 1) (T.init 0) [.ref S.length, x0, .tup xs, x2, x3, x4, x5, x6, x7] (S ++ [.ins 0 []]) = .ok .non (S ++ [.ins 0 [x0, .tup xs, x2, x3, x4, x5, x6, x7]]) := by
  rw [← W_iff]
  refine W_runK (cf := c4) rfl rfl rfl ?_
  have f0 := @sfld_new T S 0 0 [] x0 [] rfl (by decide)
  have f1 := @sfld_new T S 0 1 [x0] (.tup xs) [] rfl (by simp)
  have f2 := @sfld_new T S 0 2 [x0, .tup xs] x2 [] rfl (by simp)
  have f3 := @sfld_new T S 0 3 [x0, .tup xs, x2] x3 [] rfl (by simp)
  have f4 := @sfld_new T S 0 4 [x0, .tup xs, x2, x3] x4 [] rfl (by simp)
  have f5 := @sfld_new T S 0 5 [x0, .tup xs, x2, x3, x4] x5 [] rfl (by simp)
  have f6 := @sfld_new T S 0 6 [x0, .tup xs, x2, x3, x4, x5] x6 [] rfl (by simp)
  have f7 := @sfld_new T S 0 7 [x0, .tup xs, x2, x3, x4, x5, x6] x7 [] rfl (by simp)
  simp only [List.nil_append, List.cons_append] at f0 f1 f2 f3 f4 f5 f6 f7
  simp only [c4, List.length_map, b_nil, b_cons, k_next, k_ret, k_brk, k_cnt, f_for, f_comp, ss_pass, ss_ret, ss_retN, ss_expr, ss_set, ss_tset, ss_sub, ss_sfld, ss_aug, ss_ite, ss_for, ss_whl, ss_brk, ss_cnt, e_slot, e_non, e_bl, e_int, e_str, e_bin, e_neg, e_inv, e_cmp, e_chain, e_and, e_or, e_not, e_ife, e_tup, e_lst, e_call, e_mk, e_bi, e_met, e_om, e_idx, e_slc, e_fld, e_comp, e_frz, t_and, t_or, t_not, t_val, q_none, q_some, es_nil, es_cons, o_none, o_some, i_val, i_rng, i_rng2, i_enum, i_zip, i_rev, a_nm, a_tp, sets_nil, sets_cons, wipe_nil, wipe_cons, tru_bl, tru_int, seq_lst, seq_tup, lst_lst, bi_len, bi_lenT, bi_abs, bi_int, bi_min2, bi_max2, bi_listL, bi_tupleL, bi_sum, W_ok, b_add, b_sub, b_mul, b_div, b_mod, b_pow, b_shl, b_shr, b_and, b_or, b_xor, c_eq, c_ne, c_lt, c_le, c_gt, c_ge, c_eqb, c_neb, c_non, c_isnon, c_isb, c_isnb, endK_ret, endK_next, rf_0, sw_0, rf_1, sw_1, rf_2, sw_2, rf_3, sw_3, rf_4, sw_4, rf_5, sw_5, rf_6, sw_6, rf_7, sw_7, tup_0, lst_0, tup_1, lst_1, tup_2, lst_2, tup_3, lst_3, tup_4, lst_4, tup_5, lst_5, tup_6, lst_6, tup_7, lst_7, endW_ret, endW_next, stepW_next, stepW_cnt, stepW_brk, stepW_ret, List.map_cons, List.map_nil, List.length_cons, List.length_nil, List.replicate, List.cons_append, List.nil_append, List.set_cons_zero, List.set_cons_succ, List.getElem?_cons_zero, List.getElem?_cons_succ, Option.some.injEq, D.int.injEq, D.bl.injEq, exEq, exists_eq_left', if_true, if_false, Bool.false_eq_true, decide_eq_true_eq, Option.isSome_some, true_and, reduceCtorEq, bit_p1, bit_p0, dec_false, dec_true, not_true_p, Int.toNat_natCast, Nat.reduceAdd, Nat.reduceSub, f0, bi_tuple (seq_tup), f1, f2, f3, f4, f5, f6, f7]
abbrev roomD (pl : List Nat) (r1 r2 r3 r4 : Int) : D := .lst [.lst (nl pl), .int r1, .int r2, .int r3, .int r4]
section
variable {k N : Nat} {S : Sto} {pl : List Nat} {r1 r2 r3 r4 : Int} (hN : N ≤ 6) (hp : Pl N pl)
include hN hp
theorem told_ok {nm : Str} {c n b a d : Int} : sem T P (k + 2) 20 [roomD pl r1 r2 r3 r4, own5 c n b a d, .str nm] S = .ok (.ref S.length) (S ++ [.ins 0 [.str nm, .tup [.str "a"], .str "", .int c, .int (bitOr (plc n pl N) r1), .int (bitOr (plc b pl N) r2), .int (plc a pl N), .int (plc d pl N)]]) := by
  have hl := hp.len
  have pk : ∀ m S, sem T P (k + 1) 18 [.int m, .lst (nl pl)] S = .ok (.int (plc m pl N)) S := fun m S => by
    rw [placed_ok seq_lst (by omega) (fun i hi => hp.lt i (by omega)), hl]
  rw [← W_iff]
  refine W_run (cf := c20) rfl rfl rfl ?_
  simp only [c20, List.length_map, b_nil, b_cons, k_next, k_ret, k_brk, k_cnt, f_for, f_comp, ss_pass, ss_ret, ss_retN, ss_expr, ss_set, ss_tset, ss_sub, ss_sfld, ss_aug, ss_ite, ss_for, ss_whl, ss_brk, ss_cnt, e_slot, e_non, e_bl, e_int, e_str, e_bin, e_neg, e_inv, e_cmp, e_chain, e_and, e_or, e_not, e_ife, e_tup, e_lst, e_call, e_mk, e_bi, e_met, e_om, e_idx, e_slc, e_fld, e_comp, e_frz, t_and, t_or, t_not, t_val, q_none, q_some, es_nil, es_cons, o_none, o_some, i_val, i_rng, i_rng2, i_enum, i_zip, i_rev, a_nm, a_tp, sets_nil, sets_cons, wipe_nil, wipe_cons, tru_bl, tru_int, seq_lst, seq_tup, lst_lst, bi_len, bi_lenT, bi_abs, bi_int, bi_min2, bi_max2, bi_listL, bi_tupleL, bi_sum, W_ok, b_add, b_sub, b_mul, b_div, b_mod, b_pow, b_shl, b_shr, b_and, b_or, b_xor, c_eq, c_ne, c_lt, c_le, c_gt, c_ge, c_eqb, c_neb, c_non, c_isnon, c_isb, c_isnb, endK_ret, endK_next, rf_0, sw_0, rf_1, sw_1, rf_2, sw_2, rf_3, sw_3, rf_4, sw_4, rf_5, sw_5, rf_6, sw_6, rf_7, sw_7, tup_0, lst_0, tup_1, lst_1, tup_2, lst_2, tup_3, lst_3, tup_4, lst_4, tup_5, lst_5, tup_6, lst_6, tup_7, lst_7, endW_ret, endW_next, stepW_next, stepW_cnt, stepW_brk, stepW_ret, List.map_cons, List.map_nil, List.length_cons, List.length_nil, List.replicate, List.cons_append, List.nil_append, List.set_cons_zero, List.set_cons_succ, List.getElem?_cons_zero, List.getElem?_cons_succ, Option.some.injEq, D.int.injEq, D.bl.injEq, exEq, exists_eq_left', if_true, if_false, Bool.false_eq_true, decide_eq_true_eq, Option.isSome_some, true_and, reduceCtorEq, bit_p1, bit_p0, dec_false, dec_true, not_true_p, Int.toNat_natCast, Nat.reduceAdd, Nat.reduceSub, pk, init_ok]
  refine ⟨by decide, ?_⟩
  rw [end_ins rfl]
  exact ⟨rfl, rfl⟩
theorem handed_ok {f g : Int} : sem T P (k + 2) 21 [roomD pl r1 r2 r3 r4, mk2 f g] S = .ok (mk2 (bitOr (plc f pl N) r3) (bitOr (plc g pl N) r4)) S := by
  have hl := hp.len
  have pk : ∀ m S, sem T P (k + 1) 18 [.int m, .lst (nl pl)] S = .ok (.int (plc m pl N)) S := fun m S => by
    rw [placed_ok seq_lst (by omega) (fun i hi => hp.lt i (by omega)), hl]
  rw [← W_iff]
  refine W_run (cf := c21) rfl rfl rfl ?_
  simp only [c21, List.length_map, b_nil, b_cons, k_next, k_ret, k_brk, k_cnt, f_for, f_comp, ss_pass, ss_ret, ss_retN, ss_expr, ss_set, ss_tset, ss_sub, ss_sfld, ss_aug, ss_ite, ss_for, ss_whl, ss_brk, ss_cnt, e_slot, e_non, e_bl, e_int, e_str, e_bin, e_neg, e_inv, e_cmp, e_chain, e_and, e_or, e_not, e_ife, e_tup, e_lst, e_call, e_mk, e_bi, e_met, e_om, e_idx, e_slc, e_fld, e_comp, e_frz, t_and, t_or, t_not, t_val, q_none, q_some, es_nil, es_cons, o_none, o_some, i_val, i_rng, i_rng2, i_enum, i_zip, i_rev, a_nm, a_tp, sets_nil, sets_cons, wipe_nil, wipe_cons, tru_bl, tru_int, seq_lst, seq_tup, lst_lst, bi_len, bi_lenT, bi_abs, bi_int, bi_min2, bi_max2, bi_listL, bi_tupleL, bi_sum, W_ok, b_add, b_sub, b_mul, b_div, b_mod, b_pow, b_shl, b_shr, b_and, b_or, b_xor, c_eq, c_ne, c_lt, c_le, c_gt, c_ge, c_eqb, c_neb, c_non, c_isnon, c_isb, c_isnb, endK_ret, endK_next, rf_0, sw_0, rf_1, sw_1, rf_2, sw_2, rf_3, sw_3, rf_4, sw_4, rf_5, sw_5, rf_6, sw_6, rf_7, sw_7, tup_0, lst_0, tup_1, lst_1, tup_2, lst_2, tup_3, lst_3, tup_4, lst_4, tup_5, lst_5, tup_6, lst_6, tup_7, lst_7, endW_ret, endW_next, stepW_next, stepW_cnt, stepW_brk, stepW_ret, List.map_cons, List.map_nil, List.length_cons, List.length_nil, List.replicate, List.cons_append, List.nil_append, List.set_cons_zero, List.set_cons_succ, List.getElem?_cons_zero, List.getElem?_cons_succ, Option.some.injEq, D.int.injEq, D.bl.injEq, exEq, exists_eq_left', if_true, if_false, Bool.false_eq_true, decide_eq_true_eq, Option.isSome_some, true_and, reduceCtorEq, bit_p1, bit_p0, dec_false, dec_true, not_true_p, Int.toNat_natCast, Nat.reduceAdd, Nat.reduceSub, pk]
  refine ⟨by decide, ?_⟩
  exact ret_same rfl
variable (f1 : Fre N pl r1) (f2 : Fre N pl r2) (f3 : Fre N pl r3) (f4 : Fre N pl r4)
omit hN hp in
theorem same_bl {b : Bool} {S : Sto} : sem T P (k + 1) 8 [.bl b, .bl b] S = .ok (.bl true) S := same_ok P8 0 (.bl b) ⟨0, rfl, Nat.le_refl _⟩ (by omega) rfl k S
include f1 f2 f3 f4
theorem pair_ok {f g c n b a d c' n' b' a' d' : Int} (h : Fc N n b a d) (h' : Fc N n' b' a' d') : sem T P (k + 3) 23 [.int (N : Int), roomD pl r1 r2 r3 r4, mk2 f g, own5 c' n' b' a' d', own5 c n b a d] S = .ok (.bl true) S := by
  rw [← W_iff]
  refine W_run (cf := c23) rfl rfl rfl ?_
  have e1 : ∀ nm c n b a d S, sem T P (k + 2) 20 [roomD pl r1 r2 r3 r4, own5 c n b a d, .str nm] S = _ := fun nm c n b a d S => told_ok (k := k) (S := S) (nm := nm) (c := c) (n := n) (b := b) (a := a) (d := d) (r1 := r1) (r2 := r2) (r3 := r3) (r4 := r4) hN hp
  have e2 : ∀ S, sem T P (k + 2) 21 [roomD pl r1 r2 r3 r4, mk2 f g] S = _ := fun S => handed_ok (k := k) (S := S) (f := f) (g := g) (r1 := r1) (r2 := r2) (r3 := r3) (r4 := r4) hN hp
  have e3 : ∀ S, sem T P (k + 2) 22 [.int (N : Int), mk2 f g, .non, own5 c n b a d] S = _ := fun S => cover_none (k := k) (S := S) hN
  have e4 : ∀ S, sem T P (k + 2) 22 [.int (N : Int), mk2 f g, own5 c' n' b' a' d', own5 c n b a d] S = _ := fun S => cover_by (k := k) (S := S) hN
  have pz : ∀ (x1 : Str) (x4 x5 x6 x7 x8 : Int), D.pures [.str x1, .tup [.str "a"], .str "", .int x4, .int x5, .int x6, .int x7, .int x8] = true := fun _ _ _ _ _ _ => rfl
  simp only [c23, List.length_map, b_nil, b_cons, k_next, k_ret, k_brk, k_cnt, f_for, f_comp, ss_pass, ss_ret, ss_retN, ss_expr, ss_set, ss_tset, ss_sub, ss_sfld, ss_aug, ss_ite, ss_for, ss_whl, ss_brk, ss_cnt, e_slot, e_non, e_bl, e_int, e_str, e_bin, e_neg, e_inv, e_cmp, e_chain, e_and, e_or, e_not, e_ife, e_tup, e_lst, e_call, e_mk, e_bi, e_met, e_om, e_idx, e_slc, e_fld, e_comp, e_frz, t_and, t_or, t_not, t_val, q_none, q_some, es_nil, es_cons, o_none, o_some, i_val, i_rng, i_rng2, i_enum, i_zip, i_rev, a_nm, a_tp, sets_nil, sets_cons, wipe_nil, wipe_cons, tru_bl, tru_int, seq_lst, seq_tup, lst_lst, bi_len, bi_lenT, bi_abs, bi_int, bi_min2, bi_max2, bi_listL, bi_tupleL, bi_sum, W_ok, b_add, b_sub, b_mul, b_div, b_mod, b_pow, b_shl, b_shr, b_and, b_or, b_xor, c_eq, c_ne, c_lt, c_le, c_gt, c_ge, c_eqb, c_neb, c_non, c_isnon, c_isb, c_isnb, endK_ret, endK_next, rf_0, sw_0, rf_1, sw_1, rf_2, sw_2, rf_3, sw_3, rf_4, sw_4, rf_5, sw_5, rf_6, sw_6, rf_7, sw_7, tup_0, lst_0, tup_1, lst_1, tup_2, lst_2, tup_3, lst_3, tup_4, lst_4, tup_5, lst_5, tup_6, lst_6, tup_7, lst_7, endW_ret, endW_next, stepW_next, stepW_cnt, stepW_brk, stepW_ret, List.map_cons, List.map_nil, List.length_cons, List.length_nil, List.replicate, List.cons_append, List.nil_append, List.set_cons_zero, List.set_cons_succ, List.getElem?_cons_zero, List.getElem?_cons_succ, Option.some.injEq, D.int.injEq, D.bl.injEq, exEq, exists_eq_left', if_true, if_false, Bool.false_eq_true, decide_eq_true_eq, Option.isSome_some, true_and, reduceCtorEq, bit_p1, bit_p0, dec_false, dec_true, not_true_p, Int.toNat_natCast, Nat.reduceAdd, Nat.reduceSub, e2, e1, frz_ins (pz _ _ _ _ _ _), useless_ok, us_placed hp f1 f2 f3 f4 h, us_all h, e3, same_bl, Bool.not_true, e4, dom_ok, dom_placed hp f1 f2 f3 f4 h h', dom_all h h']
  by_cases hc : c' ≤ c
  · simp only [hc, decide_true, Bool.true_and, List.length_map, b_nil, b_cons, k_next, k_ret, k_brk, k_cnt, f_for, f_comp, ss_pass, ss_ret, ss_retN, ss_expr, ss_set, ss_tset, ss_sub, ss_sfld, ss_aug, ss_ite, ss_for, ss_whl, ss_brk, ss_cnt, e_slot, e_non, e_bl, e_int, e_str, e_bin, e_neg, e_inv, e_cmp, e_chain, e_and, e_or, e_not, e_ife, e_tup, e_lst, e_call, e_mk, e_bi, e_met, e_om, e_idx, e_slc, e_fld, e_comp, e_frz, t_and, t_or, t_not, t_val, q_none, q_some, es_nil, es_cons, o_none, o_some, i_val, i_rng, i_rng2, i_enum, i_zip, i_rev, a_nm, a_tp, sets_nil, sets_cons, wipe_nil, wipe_cons, tru_bl, tru_int, seq_lst, seq_tup, lst_lst, bi_len, bi_lenT, bi_abs, bi_int, bi_min2, bi_max2, bi_listL, bi_tupleL, bi_sum, W_ok, b_add, b_sub, b_mul, b_div, b_mod, b_pow, b_shl, b_shr, b_and, b_or, b_xor, c_eq, c_ne, c_lt, c_le, c_gt, c_ge, c_eqb, c_neb, c_non, c_isnon, c_isb, c_isnb, endK_ret, endK_next, rf_0, sw_0, rf_1, sw_1, rf_2, sw_2, rf_3, sw_3, rf_4, sw_4, rf_5, sw_5, rf_6, sw_6, rf_7, sw_7, tup_0, lst_0, tup_1, lst_1, tup_2, lst_2, tup_3, lst_3, tup_4, lst_4, tup_5, lst_5, tup_6, lst_6, tup_7, lst_7, endW_ret, endW_next, stepW_next, stepW_cnt, stepW_brk, stepW_ret, List.map_cons, List.map_nil, List.length_cons, List.length_nil, List.replicate, List.cons_append, List.nil_append, List.set_cons_zero, List.set_cons_succ, List.getElem?_cons_zero, List.getElem?_cons_succ, Option.some.injEq, D.int.injEq, D.bl.injEq, exEq, exists_eq_left', if_true, if_false, Bool.false_eq_true, decide_eq_true_eq, Option.isSome_some, true_and, reduceCtorEq, bit_p1, bit_p0, dec_false, dec_true, not_true_p, Int.toNat_natCast, Nat.reduceAdd, Nat.reduceSub, same_bl]
    exact ret_same rfl
  · simp only [hc, decide_false, Bool.false_and, List.length_map, b_nil, b_cons, k_next, k_ret, k_brk, k_cnt, f_for, f_comp, ss_pass, ss_ret, ss_retN, ss_expr, ss_set, ss_tset, ss_sub, ss_sfld, ss_aug, ss_ite, ss_for, ss_whl, ss_brk, ss_cnt, e_slot, e_non, e_bl, e_int, e_str, e_bin, e_neg, e_inv, e_cmp, e_chain, e_and, e_or, e_not, e_ife, e_tup, e_lst, e_call, e_mk, e_bi, e_met, e_om, e_idx, e_slc, e_fld, e_comp, e_frz, t_and, t_or, t_not, t_val, q_none, q_some, es_nil, es_cons, o_none, o_some, i_val, i_rng, i_rng2, i_enum, i_zip, i_rev, a_nm, a_tp, sets_nil, sets_cons, wipe_nil, wipe_cons, tru_bl, tru_int, seq_lst, seq_tup, lst_lst, bi_len, bi_lenT, bi_abs, bi_int, bi_min2, bi_max2, bi_listL, bi_tupleL, bi_sum, W_ok, b_add, b_sub, b_mul, b_div, b_mod, b_pow, b_shl, b_shr, b_and, b_or, b_xor, c_eq, c_ne, c_lt, c_le, c_gt, c_ge, c_eqb, c_neb, c_non, c_isnon, c_isb, c_isnb, endK_ret, endK_next, rf_0, sw_0, rf_1, sw_1, rf_2, sw_2, rf_3, sw_3, rf_4, sw_4, rf_5, sw_5, rf_6, sw_6, rf_7, sw_7, tup_0, lst_0, tup_1, lst_1, tup_2, lst_2, tup_3, lst_3, tup_4, lst_4, tup_5, lst_5, tup_6, lst_6, tup_7, lst_7, endW_ret, endW_next, stepW_next, stepW_cnt, stepW_brk, stepW_ret, List.map_cons, List.map_nil, List.length_cons, List.length_nil, List.replicate, List.cons_append, List.nil_append, List.set_cons_zero, List.set_cons_succ, List.getElem?_cons_zero, List.getElem?_cons_succ, Option.some.injEq, D.int.injEq, D.bl.injEq, exEq, exists_eq_left', if_true, if_false, Bool.false_eq_true, decide_eq_true_eq, Option.isSome_some, true_and, reduceCtorEq, bit_p1, bit_p0, dec_false, dec_true, not_true_p, Int.toNat_natCast, Nat.reduceAdd, Nat.reduceSub, same_bl]
    exact ret_same rfl
theorem twice_ok {f g c n b a d : Int} (h : Fc N n b a d) : sem T P (k + 3) 26 [roomD pl r1 r2 r3 r4, mk2 f g, own5 c n b a d] S = .ok (.bl true) S := by
  rw [← W_iff]
  refine W_run (cf := c26) rfl rfl rfl ?_
  have e1 : ∀ nm c n b a d S, sem T P (k + 2) 20 [roomD pl r1 r2 r3 r4, own5 c n b a d, .str nm] S = _ := fun nm c n b a d S => told_ok (k := k) (S := S) (nm := nm) (c := c) (n := n) (b := b) (a := a) (d := d) (r1 := r1) (r2 := r2) (r3 := r3) (r4 := r4) hN hp
  have e2 : ∀ S, sem T P (k + 2) 21 [roomD pl r1 r2 r3 r4, mk2 f g] S = _ := fun S => handed_ok (k := k) (S := S) (f := f) (g := g) (r1 := r1) (r2 := r2) (r3 := r3) (r4 := r4) hN hp
  have pz : ∀ (x1 : Str) (x4 x5 x6 x7 x8 : Int), D.pures [.str x1, .tup [.str "a"], .str "", .int x4, .int x5, .int x6, .int x7, .int x8] = true := fun _ _ _ _ _ _ => rfl
  have p5 : ∀ (x4 x5 x6 x7 x8 : Int), D.pures [.int x4, .int x5, .int x6, .int x7, .int x8] = true := fun _ _ _ _ _ => rfl
  have dt : domB c n b a d c n b a d f g = true := by
    rw [dom_all h h, decide_eq_true (Int.le_refl c), Bool.true_and]
    unfold allD
    rw [all_st (p := fun s => !canB n b s || (canB n b s && covB f g (nextI a d s) (nextI a d s)))]
    intro x _
    cases canB n b x with
    | false => rfl
    | true =>
      show covB f g (nextI a d x) (nextI a d x) = true
      rw [cov_iff]
      exact fun k => ⟨fun h _ => h, fun h _ => h⟩
  have eqq : ∀ (x4 x5 x6 x7 x8 : Int) (S : Sto), cmpD .Eq (.lst [.int x4, .int x5, .int x6, .int x7, .int x8]) (.lst [.int x4, .int x5, .int x6, .int x7, .int x8]) S = .ok (.bl true) S := by
    intro x4 x5 x6 x7 x8 S
    exact c_eq_self (n := 1) rfl (by omega)
  simp only [c26, List.length_map, b_nil, b_cons, k_next, k_ret, k_brk, k_cnt, f_for, f_comp, ss_pass, ss_ret, ss_retN, ss_expr, ss_set, ss_tset, ss_sub, ss_sfld, ss_aug, ss_ite, ss_for, ss_whl, ss_brk, ss_cnt, e_slot, e_non, e_bl, e_int, e_str, e_bin, e_neg, e_inv, e_cmp, e_chain, e_and, e_or, e_not, e_ife, e_tup, e_lst, e_call, e_mk, e_bi, e_met, e_om, e_idx, e_slc, e_fld, e_comp, e_frz, t_and, t_or, t_not, t_val, q_none, q_some, es_nil, es_cons, o_none, o_some, i_val, i_rng, i_rng2, i_enum, i_zip, i_rev, a_nm, a_tp, sets_nil, sets_cons, wipe_nil, wipe_cons, tru_bl, tru_int, seq_lst, seq_tup, lst_lst, bi_len, bi_lenT, bi_abs, bi_int, bi_min2, bi_max2, bi_listL, bi_tupleL, bi_sum, W_ok, b_add, b_sub, b_mul, b_div, b_mod, b_pow, b_shl, b_shr, b_and, b_or, b_xor, c_eq, c_ne, c_lt, c_le, c_gt, c_ge, c_eqb, c_neb, c_non, c_isnon, c_isb, c_isnb, endK_ret, endK_next, rf_0, sw_0, rf_1, sw_1, rf_2, sw_2, rf_3, sw_3, rf_4, sw_4, rf_5, sw_5, rf_6, sw_6, rf_7, sw_7, tup_0, lst_0, tup_1, lst_1, tup_2, lst_2, tup_3, lst_3, tup_4, lst_4, tup_5, lst_5, tup_6, lst_6, tup_7, lst_7, endW_ret, endW_next, stepW_next, stepW_cnt, stepW_brk, stepW_ret, List.map_cons, List.map_nil, List.length_cons, List.length_nil, List.replicate, List.cons_append, List.nil_append, List.set_cons_zero, List.set_cons_succ, List.getElem?_cons_zero, List.getElem?_cons_succ, Option.some.injEq, D.int.injEq, D.bl.injEq, exEq, exists_eq_left', if_true, if_false, Bool.false_eq_true, decide_eq_true_eq, Option.isSome_some, true_and, reduceCtorEq, bit_p1, bit_p0, dec_false, dec_true, not_true_p, Int.toNat_natCast, Nat.reduceAdd, Nat.reduceSub, e2, e1, frz_ins (pz _ _ _ _ _ _), dom_ok, dom_placed hp f1 f2 f3 f4 h h, dt, decide_true, Bool.not_true, fl3, fl4, fl5, fl6, fl7, frz_lst (p5 _ _ _ _ _), eqq]
  exact ⟨by decide, by decide, ret_same rfl⟩
end
end K19
namespace K19
open PySem Py
open Builtin (bitAnd bitOr bitNot bitXor)
theorem Fc.flipn {N i : Nat} {n b a d : Int} (h : Fc N n b a d) (hi : i < N) : Fc N (bitXor n (1 * 2 ^ i)) (bitAnd b (bitNot (bitXor n (1 * 2 ^ i)))) a d := by
  refine ⟨fun k hk => ?_, fun k hk => ?_, h.ha, h.hd, fun k hk => ?_, h.ad⟩
  · rw [ib_xor, ib_pow, h.hn k hk]; simp; omega
  · rw [ib_and, h.hb k hk]; rfl
  · rw [ib_and, ib_not, hk]; simp
theorem Fc.flipb {N i : Nat} {n b a d : Int} (h : Fc N n b a d) (hi : i < N) : Fc N (bitAnd n (bitNot (bitXor b (1 * 2 ^ i)))) (bitXor b (1 * 2 ^ i)) a d := by
  refine ⟨fun k hk => ?_, fun k hk => ?_, h.ha, h.hd, fun k hk => ?_, h.ad⟩
  · rw [ib_and, h.hn k hk]; rfl
  · rw [ib_xor, ib_pow, h.hb k hk]; simp; omega
  · rw [ib_and, ib_not] at hk
    revert hk
    cases ib n k <;> cases ib (bitXor b (1 * 2 ^ i)) k <;> simp
theorem Fc.flipa {N i : Nat} {n b a d : Int} (h : Fc N n b a d) (hi : i < N) : Fc N n b (bitXor a (1 * 2 ^ i)) (bitAnd d (bitNot (bitXor a (1 * 2 ^ i)))) := by
  refine ⟨h.hn, h.hb, fun k hk => ?_, fun k hk => ?_, h.nb, fun k hk => ?_⟩
  · rw [ib_xor, ib_pow, h.ha k hk]; simp; omega
  · rw [ib_and, h.hd k hk]; rfl
  · rw [ib_and, ib_not, hk]; simp
theorem Fc.flipd {N i : Nat} {n b a d : Int} (h : Fc N n b a d) (hi : i < N) : Fc N n b (bitAnd a (bitNot (bitXor d (1 * 2 ^ i)))) (bitXor d (1 * 2 ^ i)) := by
  refine ⟨h.hn, h.hb, fun k hk => ?_, fun k hk => ?_, h.nb, fun k hk => ?_⟩
  · rw [ib_and, h.ha k hk]; rfl
  · rw [ib_xor, ib_pow, h.hd k hk]; simp; omega
  · rw [ib_and, ib_not] at hk
    revert hk
    cases ib a k <;> cases ib (bitXor d (1 * 2 ^ i)) k <;> simp
theorem flip_ok {N i p : Nat} {c n b a d : Int} (h : Fc N n b a d) (hi : i < N) (h1 : 1 ≤ p) (h2 : p < 5) : ∃ n' b' a' d', Fc N n' b' a' d' ∧ ∀ k S, sem T P (k + 1) 24 [own5 c n b a d, .int (p : Int), .int (1 * 2 ^ i)] S = .ok (own5 c n' b' a' d') S := by
  have fz : ∀ (S : Sto) (X : Sto) (Q : D → Sto → Prop), W (shut (S ++ X) (.ref (S ++ X).length) (S ++ X ++ [.lst [.int 0, .int 2, .int 1, .int 4, .int 3]])) Q = Q (.lst [.int 0, .int 2, .int 1, .int 4, .int 3]) (S ++ X) := fun S X Q => frz_lst rfl
  match p, h1, h2 with
  | 1, _, _ =>
    refine ⟨_, _, _, _, h.flipn hi, fun k S => ?_⟩
    rw [← W_iff]
    show W (sem T P (k + 1) 24 [own5 c n b a d, .int 1, .int (1 * 2 ^ i)] S) _
    refine W_run (cf := c24) rfl rfl rfl ?_
    simp only [c24, List.length_map, b_nil, b_cons, k_next, k_ret, k_brk, k_cnt, f_for, f_comp, ss_pass, ss_ret, ss_retN, ss_expr, ss_set, ss_tset, ss_sub, ss_sfld, ss_aug, ss_ite, ss_for, ss_whl, ss_brk, ss_cnt, e_slot, e_non, e_bl, e_int, e_str, e_bin, e_neg, e_inv, e_cmp, e_chain, e_and, e_or, e_not, e_ife, e_tup, e_lst, e_call, e_mk, e_bi, e_met, e_om, e_idx, e_slc, e_fld, e_comp, e_frz, t_and, t_or, t_not, t_val, q_none, q_some, es_nil, es_cons, o_none, o_some, i_val, i_rng, i_rng2, i_enum, i_zip, i_rev, a_nm, a_tp, sets_nil, sets_cons, wipe_nil, wipe_cons, tru_bl, tru_int, seq_lst, seq_tup, lst_lst, bi_len, bi_lenT, bi_abs, bi_int, bi_min2, bi_max2, bi_listL, bi_tupleL, bi_sum, W_ok, b_add, b_sub, b_mul, b_div, b_mod, b_pow, b_shl, b_shr, b_and, b_or, b_xor, c_eq, c_ne, c_lt, c_le, c_gt, c_ge, c_eqb, c_neb, c_non, c_isnon, c_isb, c_isnb, endK_ret, endK_next, rf_0, sw_0, rf_1, sw_1, rf_2, sw_2, rf_3, sw_3, rf_4, sw_4, rf_5, sw_5, rf_6, sw_6, rf_7, sw_7, tup_0, lst_0, tup_1, lst_1, tup_2, lst_2, tup_3, lst_3, tup_4, lst_4, tup_5, lst_5, tup_6, lst_6, tup_7, lst_7, endW_ret, endW_next, stepW_next, stepW_cnt, stepW_brk, stepW_ret, List.map_cons, List.map_nil, List.length_cons, List.length_nil, List.replicate, List.cons_append, List.nil_append, List.set_cons_zero, List.set_cons_succ, List.getElem?_cons_zero, List.getElem?_cons_succ, Option.some.injEq, D.int.injEq, D.bl.injEq, exEq, exists_eq_left', if_true, if_false, Bool.false_eq_true, decide_eq_true_eq, Option.isSome_some, true_and, reduceCtorEq, bit_p1, bit_p0, dec_false, dec_true, not_true_p, Int.toNat_natCast, Nat.reduceAdd, Nat.reduceSub, bi_list seq_tup, fz]
    rw [end_new rfl]
    exact ⟨by decide, by decide, rfl, rfl⟩
  | 2, _, _ =>
    refine ⟨_, _, _, _, h.flipb hi, fun k S => ?_⟩
    rw [← W_iff]
    show W (sem T P (k + 1) 24 [own5 c n b a d, .int 2, .int (1 * 2 ^ i)] S) _
    refine W_run (cf := c24) rfl rfl rfl ?_
    simp only [c24, List.length_map, b_nil, b_cons, k_next, k_ret, k_brk, k_cnt, f_for, f_comp, ss_pass, ss_ret, ss_retN, ss_expr, ss_set, ss_tset, ss_sub, ss_sfld, ss_aug, ss_ite, ss_for, ss_whl, ss_brk, ss_cnt, e_slot, e_non, e_bl, e_int, e_str, e_bin, e_neg, e_inv, e_cmp, e_chain, e_and, e_or, e_not, e_ife, e_tup, e_lst, e_call, e_mk, e_bi, e_met, e_om, e_idx, e_slc, e_fld, e_comp, e_frz, t_and, t_or, t_not, t_val, q_none, q_some, es_nil, es_cons, o_none, o_some, i_val, i_rng, i_rng2, i_enum, i_zip, i_rev, a_nm, a_tp, sets_nil, sets_cons, wipe_nil, wipe_cons, tru_bl, tru_int, seq_lst, seq_tup, lst_lst, bi_len, bi_lenT, bi_abs, bi_int, bi_min2, bi_max2, bi_listL, bi_tupleL, bi_sum, W_ok, b_add, b_sub, b_mul, b_div, b_mod, b_pow, b_shl, b_shr, b_and, b_or, b_xor, c_eq, c_ne, c_lt, c_le, c_gt, c_ge, c_eqb, c_neb, c_non, c_isnon, c_isb, c_isnb, endK_ret, endK_next, rf_0, sw_0, rf_1, sw_1, rf_2, sw_2, rf_3, sw_3, rf_4, sw_4, rf_5, sw_5, rf_6, sw_6, rf_7, sw_7, tup_0, lst_0, tup_1, lst_1, tup_2, lst_2, tup_3, lst_3, tup_4, lst_4, tup_5, lst_5, tup_6, lst_6, tup_7, lst_7, endW_ret, endW_next, stepW_next, stepW_cnt, stepW_brk, stepW_ret, List.map_cons, List.map_nil, List.length_cons, List.length_nil, List.replicate, List.cons_append, List.nil_append, List.set_cons_zero, List.set_cons_succ, List.getElem?_cons_zero, List.getElem?_cons_succ, Option.some.injEq, D.int.injEq, D.bl.injEq, exEq, exists_eq_left', if_true, if_false, Bool.false_eq_true, decide_eq_true_eq, Option.isSome_some, true_and, reduceCtorEq, bit_p1, bit_p0, dec_false, dec_true, not_true_p, Int.toNat_natCast, Nat.reduceAdd, Nat.reduceSub, bi_list seq_tup, fz]
    rw [end_new rfl]
    exact ⟨by decide, by decide, rfl, rfl⟩
  | 3, _, _ =>
    refine ⟨_, _, _, _, h.flipa hi, fun k S => ?_⟩
    rw [← W_iff]
    show W (sem T P (k + 1) 24 [own5 c n b a d, .int 3, .int (1 * 2 ^ i)] S) _
    refine W_run (cf := c24) rfl rfl rfl ?_
    simp only [c24, List.length_map, b_nil, b_cons, k_next, k_ret, k_brk, k_cnt, f_for, f_comp, ss_pass, ss_ret, ss_retN, ss_expr, ss_set, ss_tset, ss_sub, ss_sfld, ss_aug, ss_ite, ss_for, ss_whl, ss_brk, ss_cnt, e_slot, e_non, e_bl, e_int, e_str, e_bin, e_neg, e_inv, e_cmp, e_chain, e_and, e_or, e_not, e_ife, e_tup, e_lst, e_call, e_mk, e_bi, e_met, e_om, e_idx, e_slc, e_fld, e_comp, e_frz, t_and, t_or, t_not, t_val, q_none, q_some, es_nil, es_cons, o_none, o_some, i_val, i_rng, i_rng2, i_enum, i_zip, i_rev, a_nm, a_tp, sets_nil, sets_cons, wipe_nil, wipe_cons, tru_bl, tru_int, seq_lst, seq_tup, lst_lst, bi_len, bi_lenT, bi_abs, bi_int, bi_min2, bi_max2, bi_listL, bi_tupleL, bi_sum, W_ok, b_add, b_sub, b_mul, b_div, b_mod, b_pow, b_shl, b_shr, b_and, b_or, b_xor, c_eq, c_ne, c_lt, c_le, c_gt, c_ge, c_eqb, c_neb, c_non, c_isnon, c_isb, c_isnb, endK_ret, endK_next, rf_0, sw_0, rf_1, sw_1, rf_2, sw_2, rf_3, sw_3, rf_4, sw_4, rf_5, sw_5, rf_6, sw_6, rf_7, sw_7, tup_0, lst_0, tup_1, lst_1, tup_2, lst_2, tup_3, lst_3, tup_4, lst_4, tup_5, lst_5, tup_6, lst_6, tup_7, lst_7, endW_ret, endW_next, stepW_next, stepW_cnt, stepW_brk, stepW_ret, List.map_cons, List.map_nil, List.length_cons, List.length_nil, List.replicate, List.cons_append, List.nil_append, List.set_cons_zero, List.set_cons_succ, List.getElem?_cons_zero, List.getElem?_cons_succ, Option.some.injEq, D.int.injEq, D.bl.injEq, exEq, exists_eq_left', if_true, if_false, Bool.false_eq_true, decide_eq_true_eq, Option.isSome_some, true_and, reduceCtorEq, bit_p1, bit_p0, dec_false, dec_true, not_true_p, Int.toNat_natCast, Nat.reduceAdd, Nat.reduceSub, bi_list seq_tup, fz]
    rw [end_new rfl]
    exact ⟨by decide, by decide, rfl, rfl⟩
  | 4, _, _ =>
    refine ⟨_, _, _, _, h.flipd hi, fun k S => ?_⟩
    rw [← W_iff]
    show W (sem T P (k + 1) 24 [own5 c n b a d, .int 4, .int (1 * 2 ^ i)] S) _
    refine W_run (cf := c24) rfl rfl rfl ?_
    simp only [c24, List.length_map, b_nil, b_cons, k_next, k_ret, k_brk, k_cnt, f_for, f_comp, ss_pass, ss_ret, ss_retN, ss_expr, ss_set, ss_tset, ss_sub, ss_sfld, ss_aug, ss_ite, ss_for, ss_whl, ss_brk, ss_cnt, e_slot, e_non, e_bl, e_int, e_str, e_bin, e_neg, e_inv, e_cmp, e_chain, e_and, e_or, e_not, e_ife, e_tup, e_lst, e_call, e_mk, e_bi, e_met, e_om, e_idx, e_slc, e_fld, e_comp, e_frz, t_and, t_or, t_not, t_val, q_none, q_some, es_nil, es_cons, o_none, o_some, i_val, i_rng, i_rng2, i_enum, i_zip, i_rev, a_nm, a_tp, sets_nil, sets_cons, wipe_nil, wipe_cons, tru_bl, tru_int, seq_lst, seq_tup, lst_lst, bi_len, bi_lenT, bi_abs, bi_int, bi_min2, bi_max2, bi_listL, bi_tupleL, bi_sum, W_ok, b_add, b_sub, b_mul, b_div, b_mod, b_pow, b_shl, b_shr, b_and, b_or, b_xor, c_eq, c_ne, c_lt, c_le, c_gt, c_ge, c_eqb, c_neb, c_non, c_isnon, c_isb, c_isnb, endK_ret, endK_next, rf_0, sw_0, rf_1, sw_1, rf_2, sw_2, rf_3, sw_3, rf_4, sw_4, rf_5, sw_5, rf_6, sw_6, rf_7, sw_7, tup_0, lst_0, tup_1, lst_1, tup_2, lst_2, tup_3, lst_3, tup_4, lst_4, tup_5, lst_5, tup_6, lst_6, tup_7, lst_7, endW_ret, endW_next, stepW_next, stepW_cnt, stepW_brk, stepW_ret, List.map_cons, List.map_nil, List.length_cons, List.length_nil, List.replicate, List.cons_append, List.nil_append, List.set_cons_zero, List.set_cons_succ, List.getElem?_cons_zero, List.getElem?_cons_succ, Option.some.injEq, D.int.injEq, D.bl.injEq, exEq, exists_eq_left', if_true, if_false, Bool.false_eq_true, decide_eq_true_eq, Option.isSome_some, true_and, reduceCtorEq, bit_p1, bit_p0, dec_false, dec_true, not_true_p, Int.toNat_natCast, Nat.reduceAdd, Nat.reduceSub, bi_list seq_tup, fz]
    rw [end_new rfl]
    exact ⟨by decide, by decide, rfl, rfl⟩
end K19
namespace K19
open PySem Py
open Builtin (bitAnd bitOr bitNot bitXor)
section
variable {k N : Nat} {S : Sto} {pl : List Nat} {r1 r2 r3 r4 : Int} (hN : N ≤ 6) (hp : Pl N pl) (f1 : Fre N pl r1) (f2 : Fre N pl r2) (f3 : Fre N pl r3) (f4 : Fre N pl r4)
include hN hp f1 f2 f3 f4
theorem flips_ok {f g c n b a d c' n' b' a' d' : Int} (h : Fc N n b a d) (h' : Fc N n' b' a' d') : sem T P (k + 4) 25 [.int (N : Int), roomD pl r1 r2 r3 r4, mk2 f g, own5 c' n' b' a' d', own5 c n b a d] S = .ok (.bl true) S := by
  rw [← W_iff]
  refine W_run (cf := c25) rfl rfl rfl ?_
  simp only [c25, List.length_map, b_nil, b_cons, k_next, k_ret, k_brk, k_cnt, f_for, f_comp, ss_pass, ss_ret, ss_retN, ss_expr, ss_set, ss_tset, ss_sub, ss_sfld, ss_aug, ss_ite, ss_for, ss_whl, ss_brk, ss_cnt, e_slot, e_non, e_bl, e_int, e_str, e_bin, e_neg, e_inv, e_cmp, e_chain, e_and, e_or, e_not, e_ife, e_tup, e_lst, e_call, e_mk, e_bi, e_met, e_om, e_idx, e_slc, e_fld, e_comp, e_frz, t_and, t_or, t_not, t_val, q_none, q_some, es_nil, es_cons, o_none, o_some, i_val, i_rng, i_rng2, i_enum, i_zip, i_rev, a_nm, a_tp, sets_nil, sets_cons, wipe_nil, wipe_cons, tru_bl, tru_int, seq_lst, seq_tup, lst_lst, bi_len, bi_lenT, bi_abs, bi_int, bi_min2, bi_max2, bi_listL, bi_tupleL, bi_sum, W_ok, b_add, b_sub, b_mul, b_div, b_mod, b_pow, b_shl, b_shr, b_and, b_or, b_xor, c_eq, c_ne, c_lt, c_le, c_gt, c_ge, c_eqb, c_neb, c_non, c_isnon, c_isb, c_isnb, endK_ret, endK_next, rf_0, sw_0, rf_1, sw_1, rf_2, sw_2, rf_3, sw_3, rf_4, sw_4, rf_5, sw_5, rf_6, sw_6, rf_7, sw_7, tup_0, lst_0, tup_1, lst_1, tup_2, lst_2, tup_3, lst_3, tup_4, lst_4, tup_5, lst_5, tup_6, lst_6, tup_7, lst_7, endW_ret, endW_next, stepW_next, stepW_cnt, stepW_brk, stepW_ret, List.map_cons, List.map_nil, List.length_cons, List.length_nil, List.replicate, List.cons_append, List.nil_append, List.set_cons_zero, List.set_cons_succ, List.getElem?_cons_zero, List.getElem?_cons_succ, Option.some.injEq, D.int.injEq, D.bl.injEq, exEq, exists_eq_left', if_true, if_false, Bool.false_eq_true, decide_eq_true_eq, Option.isSome_some, true_and, reduceCtorEq, bit_p1, bit_p0, dec_false, dec_true, not_true_p, Int.toNat_natCast, Nat.reduceAdd, Nat.reduceSub]
  refine ⟨⟨by omega, by omega⟩, ?_⟩
  refine W_forR0 (fun i σ S' => ∃ x y z, σ = [some (.int (N : Int)), some (roomD pl r1 r2 r3 r4), some (mk2 f g), some (own5 c' n' b' a' d'), some (own5 c n b a d), x, y, z] ∧ S' = S) ⟨_, _, _, rfl, rfl⟩ (fun i σ S' hi q => ?_) (fun σ S' q => ?_)
  · obtain ⟨x, y, z, rfl, rfl⟩ := q
    simp only [List.length_map, b_nil, b_cons, k_next, k_ret, k_brk, k_cnt, f_for, f_comp, ss_pass, ss_ret, ss_retN, ss_expr, ss_set, ss_tset, ss_sub, ss_sfld, ss_aug, ss_ite, ss_for, ss_whl, ss_brk, ss_cnt, e_slot, e_non, e_bl, e_int, e_str, e_bin, e_neg, e_inv, e_cmp, e_chain, e_and, e_or, e_not, e_ife, e_tup, e_lst, e_call, e_mk, e_bi, e_met, e_om, e_idx, e_slc, e_fld, e_comp, e_frz, t_and, t_or, t_not, t_val, q_none, q_some, es_nil, es_cons, o_none, o_some, i_val, i_rng, i_rng2, i_enum, i_zip, i_rev, a_nm, a_tp, sets_nil, sets_cons, wipe_nil, wipe_cons, tru_bl, tru_int, seq_lst, seq_tup, lst_lst, bi_len, bi_lenT, bi_abs, bi_int, bi_min2, bi_max2, bi_listL, bi_tupleL, bi_sum, W_ok, b_add, b_sub, b_mul, b_div, b_mod, b_pow, b_shl, b_shr, b_and, b_or, b_xor, c_eq, c_ne, c_lt, c_le, c_gt, c_ge, c_eqb, c_neb, c_non, c_isnon, c_isb, c_isnb, endK_ret, endK_next, rf_0, sw_0, rf_1, sw_1, rf_2, sw_2, rf_3, sw_3, rf_4, sw_4, rf_5, sw_5, rf_6, sw_6, rf_7, sw_7, tup_0, lst_0, tup_1, lst_1, tup_2, lst_2, tup_3, lst_3, tup_4, lst_4, tup_5, lst_5, tup_6, lst_6, tup_7, lst_7, endW_ret, endW_next, stepW_next, stepW_cnt, stepW_brk, stepW_ret, List.map_cons, List.map_nil, List.length_cons, List.length_nil, List.replicate, List.cons_append, List.nil_append, List.set_cons_zero, List.set_cons_succ, List.getElem?_cons_zero, List.getElem?_cons_succ, Option.some.injEq, D.int.injEq, D.bl.injEq, exEq, exists_eq_left', if_true, if_false, Bool.false_eq_true, decide_eq_true_eq, Option.isSome_some, true_and, reduceCtorEq, bit_p1, bit_p0, dec_false, dec_true, not_true_p, Int.toNat_natCast, Nat.reduceAdd, Nat.reduceSub]
    refine ⟨shl1 (by omega), by omega, ?_⟩
    rw [show ((5 : Int) - 1).toNat = 4 from rfl]
    refine W_forR (a := 1) (n := 4) (fun j σ S'' => ∃ z, σ = [some (.int (N : Int)), some (roomD pl r1 r2 r3 r4), some (mk2 f g), some (own5 c' n' b' a' d'), some (own5 c n b a d), some (.int i), some (.int (1 * 2 ^ i)), z] ∧ S'' = S') rfl ⟨_, rfl, rfl⟩ (fun j σ S'' h1 h2 q => ?_) (fun σ S'' q => ?_)
    · obtain ⟨z, rfl, rfl⟩ := q
      obtain ⟨n1, b1, a1, d1, g1, e1⟩ := flip_ok (c := c') h' hi h1 (by omega)
      obtain ⟨n2, b2, a2, d2, g2, e2⟩ := flip_ok (c := c) h hi h1 (by omega)
      simp only [List.length_map, b_nil, b_cons, k_next, k_ret, k_brk, k_cnt, f_for, f_comp, ss_pass, ss_ret, ss_retN, ss_expr, ss_set, ss_tset, ss_sub, ss_sfld, ss_aug, ss_ite, ss_for, ss_whl, ss_brk, ss_cnt, e_slot, e_non, e_bl, e_int, e_str, e_bin, e_neg, e_inv, e_cmp, e_chain, e_and, e_or, e_not, e_ife, e_tup, e_lst, e_call, e_mk, e_bi, e_met, e_om, e_idx, e_slc, e_fld, e_comp, e_frz, t_and, t_or, t_not, t_val, q_none, q_some, es_nil, es_cons, o_none, o_some, i_val, i_rng, i_rng2, i_enum, i_zip, i_rev, a_nm, a_tp, sets_nil, sets_cons, wipe_nil, wipe_cons, tru_bl, tru_int, seq_lst, seq_tup, lst_lst, bi_len, bi_lenT, bi_abs, bi_int, bi_min2, bi_max2, bi_listL, bi_tupleL, bi_sum, W_ok, b_add, b_sub, b_mul, b_div, b_mod, b_pow, b_shl, b_shr, b_and, b_or, b_xor, c_eq, c_ne, c_lt, c_le, c_gt, c_ge, c_eqb, c_neb, c_non, c_isnon, c_isb, c_isnb, endK_ret, endK_next, rf_0, sw_0, rf_1, sw_1, rf_2, sw_2, rf_3, sw_3, rf_4, sw_4, rf_5, sw_5, rf_6, sw_6, rf_7, sw_7, tup_0, lst_0, tup_1, lst_1, tup_2, lst_2, tup_3, lst_3, tup_4, lst_4, tup_5, lst_5, tup_6, lst_6, tup_7, lst_7, endW_ret, endW_next, stepW_next, stepW_cnt, stepW_brk, stepW_ret, List.map_cons, List.map_nil, List.length_cons, List.length_nil, List.replicate, List.cons_append, List.nil_append, List.set_cons_zero, List.set_cons_succ, List.getElem?_cons_zero, List.getElem?_cons_succ, Option.some.injEq, D.int.injEq, D.bl.injEq, exEq, exists_eq_left', if_true, if_false, Bool.false_eq_true, decide_eq_true_eq, Option.isSome_some, true_and, reduceCtorEq, bit_p1, bit_p0, dec_false, dec_true, not_true_p, Int.toNat_natCast, Nat.reduceAdd, Nat.reduceSub, e1, e2, pair_ok hN hp f1 f2 f3 f4 h g1, pair_ok hN hp f1 f2 f3 f4 g2 h', Bool.not_true]
      exact ⟨_, rfl, by trivial⟩
    · obtain ⟨z, rfl, rfl⟩ := q
      simp only [List.length_map, b_nil, b_cons, k_next, k_ret, k_brk, k_cnt, f_for, f_comp, ss_pass, ss_ret, ss_retN, ss_expr, ss_set, ss_tset, ss_sub, ss_sfld, ss_aug, ss_ite, ss_for, ss_whl, ss_brk, ss_cnt, e_slot, e_non, e_bl, e_int, e_str, e_bin, e_neg, e_inv, e_cmp, e_chain, e_and, e_or, e_not, e_ife, e_tup, e_lst, e_call, e_mk, e_bi, e_met, e_om, e_idx, e_slc, e_fld, e_comp, e_frz, t_and, t_or, t_not, t_val, q_none, q_some, es_nil, es_cons, o_none, o_some, i_val, i_rng, i_rng2, i_enum, i_zip, i_rev, a_nm, a_tp, sets_nil, sets_cons, wipe_nil, wipe_cons, tru_bl, tru_int, seq_lst, seq_tup, lst_lst, bi_len, bi_lenT, bi_abs, bi_int, bi_min2, bi_max2, bi_listL, bi_tupleL, bi_sum, W_ok, b_add, b_sub, b_mul, b_div, b_mod, b_pow, b_shl, b_shr, b_and, b_or, b_xor, c_eq, c_ne, c_lt, c_le, c_gt, c_ge, c_eqb, c_neb, c_non, c_isnon, c_isb, c_isnb, endK_ret, endK_next, rf_0, sw_0, rf_1, sw_1, rf_2, sw_2, rf_3, sw_3, rf_4, sw_4, rf_5, sw_5, rf_6, sw_6, rf_7, sw_7, tup_0, lst_0, tup_1, lst_1, tup_2, lst_2, tup_3, lst_3, tup_4, lst_4, tup_5, lst_5, tup_6, lst_6, tup_7, lst_7, endW_ret, endW_next, stepW_next, stepW_cnt, stepW_brk, stepW_ret, List.map_cons, List.map_nil, List.length_cons, List.length_nil, List.replicate, List.cons_append, List.nil_append, List.set_cons_zero, List.set_cons_succ, List.getElem?_cons_zero, List.getElem?_cons_succ, Option.some.injEq, D.int.injEq, D.bl.injEq, exEq, exists_eq_left', if_true, if_false, Bool.false_eq_true, decide_eq_true_eq, Option.isSome_some, true_and, reduceCtorEq, bit_p1, bit_p0, dec_false, dec_true, not_true_p, Int.toNat_natCast, Nat.reduceAdd, Nat.reduceSub, pair_ok hN hp f1 f2 f3 f4 h h', Bool.not_true]
      exact ⟨by decide, by decide, _, _, _, rfl, by trivial⟩
  · obtain ⟨x, y, z, rfl, rfl⟩ := q
    simp only [List.length_map, b_nil, b_cons, k_next, k_ret, k_brk, k_cnt, f_for, f_comp, ss_pass, ss_ret, ss_retN, ss_expr, ss_set, ss_tset, ss_sub, ss_sfld, ss_aug, ss_ite, ss_for, ss_whl, ss_brk, ss_cnt, e_slot, e_non, e_bl, e_int, e_str, e_bin, e_neg, e_inv, e_cmp, e_chain, e_and, e_or, e_not, e_ife, e_tup, e_lst, e_call, e_mk, e_bi, e_met, e_om, e_idx, e_slc, e_fld, e_comp, e_frz, t_and, t_or, t_not, t_val, q_none, q_some, es_nil, es_cons, o_none, o_some, i_val, i_rng, i_rng2, i_enum, i_zip, i_rev, a_nm, a_tp, sets_nil, sets_cons, wipe_nil, wipe_cons, tru_bl, tru_int, seq_lst, seq_tup, lst_lst, bi_len, bi_lenT, bi_abs, bi_int, bi_min2, bi_max2, bi_listL, bi_tupleL, bi_sum, W_ok, b_add, b_sub, b_mul, b_div, b_mod, b_pow, b_shl, b_shr, b_and, b_or, b_xor, c_eq, c_ne, c_lt, c_le, c_gt, c_ge, c_eqb, c_neb, c_non, c_isnon, c_isb, c_isnb, endK_ret, endK_next, rf_0, sw_0, rf_1, sw_1, rf_2, sw_2, rf_3, sw_3, rf_4, sw_4, rf_5, sw_5, rf_6, sw_6, rf_7, sw_7, tup_0, lst_0, tup_1, lst_1, tup_2, lst_2, tup_3, lst_3, tup_4, lst_4, tup_5, lst_5, tup_6, lst_6, tup_7, lst_7, endW_ret, endW_next, stepW_next, stepW_cnt, stepW_brk, stepW_ret, List.map_cons, List.map_nil, List.length_cons, List.length_nil, List.replicate, List.cons_append, List.nil_append, List.set_cons_zero, List.set_cons_succ, List.getElem?_cons_zero, List.getElem?_cons_succ, Option.some.injEq, D.int.injEq, D.bl.injEq, exEq, exists_eq_left', if_true, if_false, Bool.false_eq_true, decide_eq_true_eq, Option.isSome_some, true_and, reduceCtorEq, bit_p1, bit_p0, dec_false, dec_true, not_true_p, Int.toNat_natCast, Nat.reduceAdd, Nat.reduceSub]
    exact ret_same rfl
end
section
variable {k : Nat} {S0 S : Sto} {t b : Nat}
theorem mask_ok {n : Nat} {o : Int} (h : St t b S0 S) (hb : b < 2 ^ 50) (hn : n ≤ 64) (ho : 0 < o) : W (sem T P (k + 2) 9 [.ref t, .int (n : Int), .int o] S) fun d S' => ∃ v, d = .int v ∧ St t (b + 64) S0 S' := by
  refine W_run (cf := c9) rfl rfl rfl ?_
  simp only [c9, List.length_map, b_nil, b_cons, k_next, k_ret, k_brk, k_cnt, f_for, f_comp, ss_pass, ss_ret, ss_retN, ss_expr, ss_set, ss_tset, ss_sub, ss_sfld, ss_aug, ss_ite, ss_for, ss_whl, ss_brk, ss_cnt, e_slot, e_non, e_bl, e_int, e_str, e_bin, e_neg, e_inv, e_cmp, e_chain, e_and, e_or, e_not, e_ife, e_tup, e_lst, e_call, e_mk, e_bi, e_met, e_om, e_idx, e_slc, e_fld, e_comp, e_frz, t_and, t_or, t_not, t_val, q_none, q_some, es_nil, es_cons, o_none, o_some, i_val, i_rng, i_rng2, i_enum, i_zip, i_rev, a_nm, a_tp, sets_nil, sets_cons, wipe_nil, wipe_cons, tru_bl, tru_int, seq_lst, seq_tup, lst_lst, bi_len, bi_lenT, bi_abs, bi_int, bi_min2, bi_max2, bi_listL, bi_tupleL, bi_sum, W_ok, b_add, b_sub, b_mul, b_div, b_mod, b_pow, b_shl, b_shr, b_and, b_or, b_xor, c_eq, c_ne, c_lt, c_le, c_gt, c_ge, c_eqb, c_neb, c_non, c_isnon, c_isb, c_isnb, endK_ret, endK_next, rf_0, sw_0, rf_1, sw_1, rf_2, sw_2, rf_3, sw_3, rf_4, sw_4, rf_5, sw_5, rf_6, sw_6, rf_7, sw_7, tup_0, lst_0, tup_1, lst_1, tup_2, lst_2, tup_3, lst_3, tup_4, lst_4, tup_5, lst_5, tup_6, lst_6, tup_7, lst_7, endW_ret, endW_next, stepW_next, stepW_cnt, stepW_brk, stepW_ret, List.map_cons, List.map_nil, List.length_cons, List.length_nil, List.replicate, List.cons_append, List.nil_append, List.set_cons_zero, List.set_cons_succ, List.getElem?_cons_zero, List.getElem?_cons_succ, Option.some.injEq, D.int.injEq, D.bl.injEq, exEq, exists_eq_left', if_true, if_false, Bool.false_eq_true, decide_eq_true_eq, Option.isSome_some, true_and, reduceCtorEq, bit_p1, bit_p0, dec_false, dec_true, not_true_p, Int.toNat_natCast, Nat.reduceAdd, Nat.reduceSub]
  refine ⟨⟨by omega, by omega⟩, ?_⟩
  refine W_forR0 (fun i σ S' => ∃ v x, σ = [some (.ref t), some (.int (n : Int)), some (.int o), some (.int v), x] ∧ St t (b + i) S0 S') ⟨_, _, rfl, h⟩ (fun i σ S' hi g => ?_) (fun σ S' g => ?_)
  · obtain ⟨v, x, rfl, g⟩ := g
    simp only [List.length_map, b_nil, b_cons, k_next, k_ret, k_brk, k_cnt, f_for, f_comp, ss_pass, ss_ret, ss_retN, ss_expr, ss_set, ss_tset, ss_sub, ss_sfld, ss_aug, ss_ite, ss_for, ss_whl, ss_brk, ss_cnt, e_slot, e_non, e_bl, e_int, e_str, e_bin, e_neg, e_inv, e_cmp, e_chain, e_and, e_or, e_not, e_ife, e_tup, e_lst, e_call, e_mk, e_bi, e_met, e_om, e_idx, e_slc, e_fld, e_comp, e_frz, t_and, t_or, t_not, t_val, q_none, q_some, es_nil, es_cons, o_none, o_some, i_val, i_rng, i_rng2, i_enum, i_zip, i_rev, a_nm, a_tp, sets_nil, sets_cons, wipe_nil, wipe_cons, tru_bl, tru_int, seq_lst, seq_tup, lst_lst, bi_len, bi_lenT, bi_abs, bi_int, bi_min2, bi_max2, bi_listL, bi_tupleL, bi_sum, W_ok, b_add, b_sub, b_mul, b_div, b_mod, b_pow, b_shl, b_shr, b_and, b_or, b_xor, c_eq, c_ne, c_lt, c_le, c_gt, c_ge, c_eqb, c_neb, c_non, c_isnon, c_isb, c_isnb, endK_ret, endK_next, rf_0, sw_0, rf_1, sw_1, rf_2, sw_2, rf_3, sw_3, rf_4, sw_4, rf_5, sw_5, rf_6, sw_6, rf_7, sw_7, tup_0, lst_0, tup_1, lst_1, tup_2, lst_2, tup_3, lst_3, tup_4, lst_4, tup_5, lst_5, tup_6, lst_6, tup_7, lst_7, endW_ret, endW_next, stepW_next, stepW_cnt, stepW_brk, stepW_ret, List.map_cons, List.map_nil, List.length_cons, List.length_nil, List.replicate, List.cons_append, List.nil_append, List.set_cons_zero, List.set_cons_succ, List.getElem?_cons_zero, List.getElem?_cons_succ, Option.some.injEq, D.int.injEq, D.bl.injEq, exEq, exists_eq_left', if_true, if_false, Bool.false_eq_true, decide_eq_true_eq, Option.isSome_some, true_and, reduceCtorEq, bit_p1, bit_p0, dec_false, dec_true, not_true_p, Int.toNat_natCast, Nat.reduceAdd, Nat.reduceSub]
    refine (take_St P6 g (by omega) ho).mono fun d S2 q => ?_
    obtain ⟨u, rfl, _, _, q⟩ := q
    simp only [List.length_map, b_nil, b_cons, k_next, k_ret, k_brk, k_cnt, f_for, f_comp, ss_pass, ss_ret, ss_retN, ss_expr, ss_set, ss_tset, ss_sub, ss_sfld, ss_aug, ss_ite, ss_for, ss_whl, ss_brk, ss_cnt, e_slot, e_non, e_bl, e_int, e_str, e_bin, e_neg, e_inv, e_cmp, e_chain, e_and, e_or, e_not, e_ife, e_tup, e_lst, e_call, e_mk, e_bi, e_met, e_om, e_idx, e_slc, e_fld, e_comp, e_frz, t_and, t_or, t_not, t_val, q_none, q_some, es_nil, es_cons, o_none, o_some, i_val, i_rng, i_rng2, i_enum, i_zip, i_rev, a_nm, a_tp, sets_nil, sets_cons, wipe_nil, wipe_cons, tru_bl, tru_int, seq_lst, seq_tup, lst_lst, bi_len, bi_lenT, bi_abs, bi_int, bi_min2, bi_max2, bi_listL, bi_tupleL, bi_sum, W_ok, b_add, b_sub, b_mul, b_div, b_mod, b_pow, b_shl, b_shr, b_and, b_or, b_xor, c_eq, c_ne, c_lt, c_le, c_gt, c_ge, c_eqb, c_neb, c_non, c_isnon, c_isb, c_isnb, endK_ret, endK_next, rf_0, sw_0, rf_1, sw_1, rf_2, sw_2, rf_3, sw_3, rf_4, sw_4, rf_5, sw_5, rf_6, sw_6, rf_7, sw_7, tup_0, lst_0, tup_1, lst_1, tup_2, lst_2, tup_3, lst_3, tup_4, lst_4, tup_5, lst_5, tup_6, lst_6, tup_7, lst_7, endW_ret, endW_next, stepW_next, stepW_cnt, stepW_brk, stepW_ret, List.map_cons, List.map_nil, List.length_cons, List.length_nil, List.replicate, List.cons_append, List.nil_append, List.set_cons_zero, List.set_cons_succ, List.getElem?_cons_zero, List.getElem?_cons_succ, Option.some.injEq, D.int.injEq, D.bl.injEq, exEq, exists_eq_left', if_true, if_false, Bool.false_eq_true, decide_eq_true_eq, Option.isSome_some, true_and, reduceCtorEq, bit_p1, bit_p0, dec_false, dec_true, not_true_p, Int.toNat_natCast, Nat.reduceAdd, Nat.reduceSub]
    split
    · exact ⟨shl1 (by omega), _, _, rfl, q⟩
    · exact ⟨_, _, rfl, q⟩
  · obtain ⟨v, x, rfl, g⟩ := g
    simp only [List.length_map, b_nil, b_cons, k_next, k_ret, k_brk, k_cnt, f_for, f_comp, ss_pass, ss_ret, ss_retN, ss_expr, ss_set, ss_tset, ss_sub, ss_sfld, ss_aug, ss_ite, ss_for, ss_whl, ss_brk, ss_cnt, e_slot, e_non, e_bl, e_int, e_str, e_bin, e_neg, e_inv, e_cmp, e_chain, e_and, e_or, e_not, e_ife, e_tup, e_lst, e_call, e_mk, e_bi, e_met, e_om, e_idx, e_slc, e_fld, e_comp, e_frz, t_and, t_or, t_not, t_val, q_none, q_some, es_nil, es_cons, o_none, o_some, i_val, i_rng, i_rng2, i_enum, i_zip, i_rev, a_nm, a_tp, sets_nil, sets_cons, wipe_nil, wipe_cons, tru_bl, tru_int, seq_lst, seq_tup, lst_lst, bi_len, bi_lenT, bi_abs, bi_int, bi_min2, bi_max2, bi_listL, bi_tupleL, bi_sum, W_ok, b_add, b_sub, b_mul, b_div, b_mod, b_pow, b_shl, b_shr, b_and, b_or, b_xor, c_eq, c_ne, c_lt, c_le, c_gt, c_ge, c_eqb, c_neb, c_non, c_isnon, c_isb, c_isnb, endK_ret, endK_next, rf_0, sw_0, rf_1, sw_1, rf_2, sw_2, rf_3, sw_3, rf_4, sw_4, rf_5, sw_5, rf_6, sw_6, rf_7, sw_7, tup_0, lst_0, tup_1, lst_1, tup_2, lst_2, tup_3, lst_3, tup_4, lst_4, tup_5, lst_5, tup_6, lst_6, tup_7, lst_7, endW_ret, endW_next, stepW_next, stepW_cnt, stepW_brk, stepW_ret, List.map_cons, List.map_nil, List.length_cons, List.length_nil, List.replicate, List.cons_append, List.nil_append, List.set_cons_zero, List.set_cons_succ, List.getElem?_cons_zero, List.getElem?_cons_succ, Option.some.injEq, D.int.injEq, D.bl.injEq, exEq, exists_eq_left', if_true, if_false, Bool.false_eq_true, decide_eq_true_eq, Option.isSome_some, true_and, reduceCtorEq, bit_p1, bit_p0, dec_false, dec_true, not_true_p, Int.toNat_natCast, Nat.reduceAdd, Nat.reduceSub]
    rw [h.ret g rfl]
    exact ⟨_, rfl, g.mono (by omega)⟩
theorem cost_ok (h : St t b S0 S) (hb : b < 2 ^ 50) : W (sem T P (k + 2) 7 [.ref t] S) fun d S' => ∃ v, d = .int v ∧ St t (b + 2) S0 S' := by
  refine W_run (cf := c7) rfl rfl rfl ?_
  simp only [c7, List.length_map, b_nil, b_cons, k_next, k_ret, k_brk, k_cnt, f_for, f_comp, ss_pass, ss_ret, ss_retN, ss_expr, ss_set, ss_tset, ss_sub, ss_sfld, ss_aug, ss_ite, ss_for, ss_whl, ss_brk, ss_cnt, e_slot, e_non, e_bl, e_int, e_str, e_bin, e_neg, e_inv, e_cmp, e_chain, e_and, e_or, e_not, e_ife, e_tup, e_lst, e_call, e_mk, e_bi, e_met, e_om, e_idx, e_slc, e_fld, e_comp, e_frz, t_and, t_or, t_not, t_val, q_none, q_some, es_nil, es_cons, o_none, o_some, i_val, i_rng, i_rng2, i_enum, i_zip, i_rev, a_nm, a_tp, sets_nil, sets_cons, wipe_nil, wipe_cons, tru_bl, tru_int, seq_lst, seq_tup, lst_lst, bi_len, bi_lenT, bi_abs, bi_int, bi_min2, bi_max2, bi_listL, bi_tupleL, bi_sum, W_ok, b_add, b_sub, b_mul, b_div, b_mod, b_pow, b_shl, b_shr, b_and, b_or, b_xor, c_eq, c_ne, c_lt, c_le, c_gt, c_ge, c_eqb, c_neb, c_non, c_isnon, c_isb, c_isnb, endK_ret, endK_next, rf_0, sw_0, rf_1, sw_1, rf_2, sw_2, rf_3, sw_3, rf_4, sw_4, rf_5, sw_5, rf_6, sw_6, rf_7, sw_7, tup_0, lst_0, tup_1, lst_1, tup_2, lst_2, tup_3, lst_3, tup_4, lst_4, tup_5, lst_5, tup_6, lst_6, tup_7, lst_7, endW_ret, endW_next, stepW_next, stepW_cnt, stepW_brk, stepW_ret, List.map_cons, List.map_nil, List.length_cons, List.length_nil, List.replicate, List.cons_append, List.nil_append, List.set_cons_zero, List.set_cons_succ, List.getElem?_cons_zero, List.getElem?_cons_succ, Option.some.injEq, D.int.injEq, D.bl.injEq, exEq, exists_eq_left', if_true, if_false, Bool.false_eq_true, decide_eq_true_eq, Option.isSome_some, true_and, reduceCtorEq, bit_p1, bit_p0, dec_false, dec_true, not_true_p, Int.toNat_natCast, Nat.reduceAdd, Nat.reduceSub]
  refine (take_St P6 h (by omega) (by omega)).mono fun d S2 q => ?_
  obtain ⟨u, rfl, _, _, q⟩ := q
  simp only [List.length_map, b_nil, b_cons, k_next, k_ret, k_brk, k_cnt, f_for, f_comp, ss_pass, ss_ret, ss_retN, ss_expr, ss_set, ss_tset, ss_sub, ss_sfld, ss_aug, ss_ite, ss_for, ss_whl, ss_brk, ss_cnt, e_slot, e_non, e_bl, e_int, e_str, e_bin, e_neg, e_inv, e_cmp, e_chain, e_and, e_or, e_not, e_ife, e_tup, e_lst, e_call, e_mk, e_bi, e_met, e_om, e_idx, e_slc, e_fld, e_comp, e_frz, t_and, t_or, t_not, t_val, q_none, q_some, es_nil, es_cons, o_none, o_some, i_val, i_rng, i_rng2, i_enum, i_zip, i_rev, a_nm, a_tp, sets_nil, sets_cons, wipe_nil, wipe_cons, tru_bl, tru_int, seq_lst, seq_tup, lst_lst, bi_len, bi_lenT, bi_abs, bi_int, bi_min2, bi_max2, bi_listL, bi_tupleL, bi_sum, W_ok, b_add, b_sub, b_mul, b_div, b_mod, b_pow, b_shl, b_shr, b_and, b_or, b_xor, c_eq, c_ne, c_lt, c_le, c_gt, c_ge, c_eqb, c_neb, c_non, c_isnon, c_isb, c_isnb, endK_ret, endK_next, rf_0, sw_0, rf_1, sw_1, rf_2, sw_2, rf_3, sw_3, rf_4, sw_4, rf_5, sw_5, rf_6, sw_6, rf_7, sw_7, tup_0, lst_0, tup_1, lst_1, tup_2, lst_2, tup_3, lst_3, tup_4, lst_4, tup_5, lst_5, tup_6, lst_6, tup_7, lst_7, endW_ret, endW_next, stepW_next, stepW_cnt, stepW_brk, stepW_ret, List.map_cons, List.map_nil, List.length_cons, List.length_nil, List.replicate, List.cons_append, List.nil_append, List.set_cons_zero, List.set_cons_succ, List.getElem?_cons_zero, List.getElem?_cons_succ, Option.some.injEq, D.int.injEq, D.bl.injEq, exEq, exists_eq_left', if_true, if_false, Bool.false_eq_true, decide_eq_true_eq, Option.isSome_some, true_and, reduceCtorEq, bit_p1, bit_p0, dec_false, dec_true, not_true_p, Int.toNat_natCast, Nat.reduceAdd, Nat.reduceSub]
  split
  · rw [h.ret q rfl]
    exact ⟨_, rfl, q.mono (by omega)⟩
  · split
    · refine ⟨⟨by omega, by omega, by decide⟩, ?_⟩
      refine (take_St P6 q (by omega) (by omega)).mono fun d S3 q2 => ?_
      obtain ⟨v, rfl, _, _, q2⟩ := q2
      simp only [List.length_map, b_nil, b_cons, k_next, k_ret, k_brk, k_cnt, f_for, f_comp, ss_pass, ss_ret, ss_retN, ss_expr, ss_set, ss_tset, ss_sub, ss_sfld, ss_aug, ss_ite, ss_for, ss_whl, ss_brk, ss_cnt, e_slot, e_non, e_bl, e_int, e_str, e_bin, e_neg, e_inv, e_cmp, e_chain, e_and, e_or, e_not, e_ife, e_tup, e_lst, e_call, e_mk, e_bi, e_met, e_om, e_idx, e_slc, e_fld, e_comp, e_frz, t_and, t_or, t_not, t_val, q_none, q_some, es_nil, es_cons, o_none, o_some, i_val, i_rng, i_rng2, i_enum, i_zip, i_rev, a_nm, a_tp, sets_nil, sets_cons, wipe_nil, wipe_cons, tru_bl, tru_int, seq_lst, seq_tup, lst_lst, bi_len, bi_lenT, bi_abs, bi_int, bi_min2, bi_max2, bi_listL, bi_tupleL, bi_sum, W_ok, b_add, b_sub, b_mul, b_div, b_mod, b_pow, b_shl, b_shr, b_and, b_or, b_xor, c_eq, c_ne, c_lt, c_le, c_gt, c_ge, c_eqb, c_neb, c_non, c_isnon, c_isb, c_isnb, endK_ret, endK_next, rf_0, sw_0, rf_1, sw_1, rf_2, sw_2, rf_3, sw_3, rf_4, sw_4, rf_5, sw_5, rf_6, sw_6, rf_7, sw_7, tup_0, lst_0, tup_1, lst_1, tup_2, lst_2, tup_3, lst_3, tup_4, lst_4, tup_5, lst_5, tup_6, lst_6, tup_7, lst_7, endW_ret, endW_next, stepW_next, stepW_cnt, stepW_brk, stepW_ret, List.map_cons, List.map_nil, List.length_cons, List.length_nil, List.replicate, List.cons_append, List.nil_append, List.set_cons_zero, List.set_cons_succ, List.getElem?_cons_zero, List.getElem?_cons_succ, Option.some.injEq, D.int.injEq, D.bl.injEq, exEq, exists_eq_left', if_true, if_false, Bool.false_eq_true, decide_eq_true_eq, Option.isSome_some, true_and, reduceCtorEq, bit_p1, bit_p0, dec_false, dec_true, not_true_p, Int.toNat_natCast, Nat.reduceAdd, Nat.reduceSub]
      rw [h.ret q2 rfl]
      exact ⟨_, rfl, q2.mono (by omega)⟩
    · refine (take_St P6 q (by omega) (by omega)).mono fun d S3 q2 => ?_
      obtain ⟨v, rfl, _, _, q2⟩ := q2
      simp only [List.length_map, b_nil, b_cons, k_next, k_ret, k_brk, k_cnt, f_for, f_comp, ss_pass, ss_ret, ss_retN, ss_expr, ss_set, ss_tset, ss_sub, ss_sfld, ss_aug, ss_ite, ss_for, ss_whl, ss_brk, ss_cnt, e_slot, e_non, e_bl, e_int, e_str, e_bin, e_neg, e_inv, e_cmp, e_chain, e_and, e_or, e_not, e_ife, e_tup, e_lst, e_call, e_mk, e_bi, e_met, e_om, e_idx, e_slc, e_fld, e_comp, e_frz, t_and, t_or, t_not, t_val, q_none, q_some, es_nil, es_cons, o_none, o_some, i_val, i_rng, i_rng2, i_enum, i_zip, i_rev, a_nm, a_tp, sets_nil, sets_cons, wipe_nil, wipe_cons, tru_bl, tru_int, seq_lst, seq_tup, lst_lst, bi_len, bi_lenT, bi_abs, bi_int, bi_min2, bi_max2, bi_listL, bi_tupleL, bi_sum, W_ok, b_add, b_sub, b_mul, b_div, b_mod, b_pow, b_shl, b_shr, b_and, b_or, b_xor, c_eq, c_ne, c_lt, c_le, c_gt, c_ge, c_eqb, c_neb, c_non, c_isnon, c_isb, c_isnb, endK_ret, endK_next, rf_0, sw_0, rf_1, sw_1, rf_2, sw_2, rf_3, sw_3, rf_4, sw_4, rf_5, sw_5, rf_6, sw_6, rf_7, sw_7, tup_0, lst_0, tup_1, lst_1, tup_2, lst_2, tup_3, lst_3, tup_4, lst_4, tup_5, lst_5, tup_6, lst_6, tup_7, lst_7, endW_ret, endW_next, stepW_next, stepW_cnt, stepW_brk, stepW_ret, List.map_cons, List.map_nil, List.length_cons, List.length_nil, List.replicate, List.cons_append, List.nil_append, List.set_cons_zero, List.set_cons_succ, List.getElem?_cons_zero, List.getElem?_cons_succ, Option.some.injEq, D.int.injEq, D.bl.injEq, exEq, exists_eq_left', if_true, if_false, Bool.false_eq_true, decide_eq_true_eq, Option.isSome_some, true_and, reduceCtorEq, bit_p1, bit_p0, dec_false, dec_true, not_true_p, Int.toNat_natCast, Nat.reduceAdd, Nat.reduceSub]
      rw [h.ret q2 rfl]
      exact ⟨_, rfl, q2.mono (by omega)⟩
/-- a fact's signs -/
abbrev sg (x y : Nat) : D := .tup [.int (x : Int), .int (y : Int)]
def Sg (d : D) : Prop := ∃ x y : Nat, x < 3 ∧ y < 3 ∧ d = sg x y
theorem pick5 {a b c d e : Nat} {S : Sto} {v : Int} (h0 : 0 ≤ v) (h1 : v < 5) (ha : a < 3) (hb : b < 3) (hc : c < 3) (hd : d < 3) (he : e < 3) : ∃ x : Nat, x < 3 ∧ idxD (.lst [.int (a : Int), .int (b : Int), .int (c : Int), .int (d : Int), .int (e : Int)]) (.int v) S = .ok (.int (x : Int)) S := by
  have : v = 0 ∨ v = 1 ∨ v = 2 ∨ v = 3 ∨ v = 4 := by omega
  rcases this with rfl | rfl | rfl | rfl | rfl
  · exact ⟨a, ha, lst_0⟩
  · exact ⟨b, hb, lst_1⟩
  · exact ⟨c, hc, lst_2⟩
  · exact ⟨d, hd, lst_3⟩
  · exact ⟨e, he, lst_4⟩
theorem signs_ok (h : St t b S0 S) (hb : b < 2 ^ 55) : W (sem T P (k + 2) 15 [.ref t] S) fun d S' => Sg d ∧ St t (b + 2) S0 S' := by
  refine W_run (cf := c15) rfl rfl rfl ?_
  have fz : ∀ (a b c d e : Int) (S : Sto) (Q : D → Sto → Prop), W (shut S (.ref S.length) (S ++ [.lst [.int a, .int b, .int c, .int d, .int e]])) Q = Q (.lst [.int a, .int b, .int c, .int d, .int e]) S := fun _ _ _ _ _ S Q => frz_lst rfl
  simp only [c15, List.length_map, b_nil, b_cons, k_next, k_ret, k_brk, k_cnt, f_for, f_comp, ss_pass, ss_ret, ss_retN, ss_expr, ss_set, ss_tset, ss_sub, ss_sfld, ss_aug, ss_ite, ss_for, ss_whl, ss_brk, ss_cnt, e_slot, e_non, e_bl, e_int, e_str, e_bin, e_neg, e_inv, e_cmp, e_chain, e_and, e_or, e_not, e_ife, e_tup, e_lst, e_call, e_mk, e_bi, e_met, e_om, e_idx, e_slc, e_fld, e_comp, e_frz, t_and, t_or, t_not, t_val, q_none, q_some, es_nil, es_cons, o_none, o_some, i_val, i_rng, i_rng2, i_enum, i_zip, i_rev, a_nm, a_tp, sets_nil, sets_cons, wipe_nil, wipe_cons, tru_bl, tru_int, seq_lst, seq_tup, lst_lst, bi_len, bi_lenT, bi_abs, bi_int, bi_min2, bi_max2, bi_listL, bi_tupleL, bi_sum, W_ok, b_add, b_sub, b_mul, b_div, b_mod, b_pow, b_shl, b_shr, b_and, b_or, b_xor, c_eq, c_ne, c_lt, c_le, c_gt, c_ge, c_eqb, c_neb, c_non, c_isnon, c_isb, c_isnb, endK_ret, endK_next, rf_0, sw_0, rf_1, sw_1, rf_2, sw_2, rf_3, sw_3, rf_4, sw_4, rf_5, sw_5, rf_6, sw_6, rf_7, sw_7, tup_0, lst_0, tup_1, lst_1, tup_2, lst_2, tup_3, lst_3, tup_4, lst_4, tup_5, lst_5, tup_6, lst_6, tup_7, lst_7, endW_ret, endW_next, stepW_next, stepW_cnt, stepW_brk, stepW_ret, List.map_cons, List.map_nil, List.length_cons, List.length_nil, List.replicate, List.cons_append, List.nil_append, List.set_cons_zero, List.set_cons_succ, List.getElem?_cons_zero, List.getElem?_cons_succ, Option.some.injEq, D.int.injEq, D.bl.injEq, exEq, exists_eq_left', if_true, if_false, Bool.false_eq_true, decide_eq_true_eq, Option.isSome_some, true_and, reduceCtorEq, bit_p1, bit_p0, dec_false, dec_true, not_true_p, Int.toNat_natCast, Nat.reduceAdd, Nat.reduceSub, fz]
  refine ⟨by decide, ?_⟩
  refine (take_St P6 h (by omega) (by omega)).mono fun d S2 q => ?_
  obtain ⟨u, rfl, u0, u1, q⟩ := q
  obtain ⟨x, hx, e⟩ := pick5 (a := 0) (b := 0) (c := 1) (d := 1) (e := 2) (S := S2) u0 u1 (by omega) (by omega) (by omega) (by omega) (by omega)
  rw [show idxD (.lst [.int 0, .int 0, .int 1, .int 1, .int 2]) (.int u) S2 = .ok (.int (x : Int)) S2 from e]
  simp only [List.length_map, b_nil, b_cons, k_next, k_ret, k_brk, k_cnt, f_for, f_comp, ss_pass, ss_ret, ss_retN, ss_expr, ss_set, ss_tset, ss_sub, ss_sfld, ss_aug, ss_ite, ss_for, ss_whl, ss_brk, ss_cnt, e_slot, e_non, e_bl, e_int, e_str, e_bin, e_neg, e_inv, e_cmp, e_chain, e_and, e_or, e_not, e_ife, e_tup, e_lst, e_call, e_mk, e_bi, e_met, e_om, e_idx, e_slc, e_fld, e_comp, e_frz, t_and, t_or, t_not, t_val, q_none, q_some, es_nil, es_cons, o_none, o_some, i_val, i_rng, i_rng2, i_enum, i_zip, i_rev, a_nm, a_tp, sets_nil, sets_cons, wipe_nil, wipe_cons, tru_bl, tru_int, seq_lst, seq_tup, lst_lst, bi_len, bi_lenT, bi_abs, bi_int, bi_min2, bi_max2, bi_listL, bi_tupleL, bi_sum, W_ok, b_add, b_sub, b_mul, b_div, b_mod, b_pow, b_shl, b_shr, b_and, b_or, b_xor, c_eq, c_ne, c_lt, c_le, c_gt, c_ge, c_eqb, c_neb, c_non, c_isnon, c_isb, c_isnb, endK_ret, endK_next, rf_0, sw_0, rf_1, sw_1, rf_2, sw_2, rf_3, sw_3, rf_4, sw_4, rf_5, sw_5, rf_6, sw_6, rf_7, sw_7, tup_0, lst_0, tup_1, lst_1, tup_2, lst_2, tup_3, lst_3, tup_4, lst_4, tup_5, lst_5, tup_6, lst_6, tup_7, lst_7, endW_ret, endW_next, stepW_next, stepW_cnt, stepW_brk, stepW_ret, List.map_cons, List.map_nil, List.length_cons, List.length_nil, List.replicate, List.cons_append, List.nil_append, List.set_cons_zero, List.set_cons_succ, List.getElem?_cons_zero, List.getElem?_cons_succ, Option.some.injEq, D.int.injEq, D.bl.injEq, exEq, exists_eq_left', if_true, if_false, Bool.false_eq_true, decide_eq_true_eq, Option.isSome_some, true_and, reduceCtorEq, bit_p1, bit_p0, dec_false, dec_true, not_true_p, Int.toNat_natCast, Nat.reduceAdd, Nat.reduceSub, fz]
  refine ⟨by decide, ?_⟩
  refine (take_St P6 q (by omega) (by omega)).mono fun d S3 q2 => ?_
  obtain ⟨v, rfl, v0, v1, q2⟩ := q2
  obtain ⟨y, hy, e⟩ := pick5 (a := 0) (b := 1) (c := 1) (d := 2) (e := 2) (S := S3) v0 v1 (by omega) (by omega) (by omega) (by omega) (by omega)
  rw [show idxD (.lst [.int 0, .int 1, .int 1, .int 2, .int 2]) (.int v) S3 = .ok (.int (y : Int)) S3 from e]
  simp only [List.length_map, b_nil, b_cons, k_next, k_ret, k_brk, k_cnt, f_for, f_comp, ss_pass, ss_ret, ss_retN, ss_expr, ss_set, ss_tset, ss_sub, ss_sfld, ss_aug, ss_ite, ss_for, ss_whl, ss_brk, ss_cnt, e_slot, e_non, e_bl, e_int, e_str, e_bin, e_neg, e_inv, e_cmp, e_chain, e_and, e_or, e_not, e_ife, e_tup, e_lst, e_call, e_mk, e_bi, e_met, e_om, e_idx, e_slc, e_fld, e_comp, e_frz, t_and, t_or, t_not, t_val, q_none, q_some, es_nil, es_cons, o_none, o_some, i_val, i_rng, i_rng2, i_enum, i_zip, i_rev, a_nm, a_tp, sets_nil, sets_cons, wipe_nil, wipe_cons, tru_bl, tru_int, seq_lst, seq_tup, lst_lst, bi_len, bi_lenT, bi_abs, bi_int, bi_min2, bi_max2, bi_listL, bi_tupleL, bi_sum, W_ok, b_add, b_sub, b_mul, b_div, b_mod, b_pow, b_shl, b_shr, b_and, b_or, b_xor, c_eq, c_ne, c_lt, c_le, c_gt, c_ge, c_eqb, c_neb, c_non, c_isnon, c_isb, c_isnb, endK_ret, endK_next, rf_0, sw_0, rf_1, sw_1, rf_2, sw_2, rf_3, sw_3, rf_4, sw_4, rf_5, sw_5, rf_6, sw_6, rf_7, sw_7, tup_0, lst_0, tup_1, lst_1, tup_2, lst_2, tup_3, lst_3, tup_4, lst_4, tup_5, lst_5, tup_6, lst_6, tup_7, lst_7, endW_ret, endW_next, stepW_next, stepW_cnt, stepW_brk, stepW_ret, List.map_cons, List.map_nil, List.length_cons, List.length_nil, List.replicate, List.cons_append, List.nil_append, List.set_cons_zero, List.set_cons_succ, List.getElem?_cons_zero, List.getElem?_cons_succ, Option.some.injEq, D.int.injEq, D.bl.injEq, exEq, exists_eq_left', if_true, if_false, Bool.false_eq_true, decide_eq_true_eq, Option.isSome_some, true_and, reduceCtorEq, bit_p1, bit_p0, dec_false, dec_true, not_true_p, Int.toNat_natCast, Nat.reduceAdd, Nat.reduceSub]
  refine ⟨by decide, ?_⟩
  rw [h.ret q2 rfl]
  exact ⟨⟨x, y, hx, hy, rfl⟩, q2.mono (by omega)⟩
end
/-! ### what stands beside -/
def aft (s e : Int) : Int := if e = 1 then 1 else if e = 2 then 0 else s
section
variable {k : Nat} {S : Sto}
theorem after_ok {s e : Int} : sem T P (k + 1) 13 [.int s, .int e] S = .ok (.int (aft s e)) S := by
  rw [← W_iff]
  refine W_run (cf := c13) rfl rfl rfl ?_
  simp only [c13, List.length_map, b_nil, b_cons, k_next, k_ret, k_brk, k_cnt, f_for, f_comp, ss_pass, ss_ret, ss_retN, ss_expr, ss_set, ss_tset, ss_sub, ss_sfld, ss_aug, ss_ite, ss_for, ss_whl, ss_brk, ss_cnt, e_slot, e_non, e_bl, e_int, e_str, e_bin, e_neg, e_inv, e_cmp, e_chain, e_and, e_or, e_not, e_ife, e_tup, e_lst, e_call, e_mk, e_bi, e_met, e_om, e_idx, e_slc, e_fld, e_comp, e_frz, t_and, t_or, t_not, t_val, q_none, q_some, es_nil, es_cons, o_none, o_some, i_val, i_rng, i_rng2, i_enum, i_zip, i_rev, a_nm, a_tp, sets_nil, sets_cons, wipe_nil, wipe_cons, tru_bl, tru_int, seq_lst, seq_tup, lst_lst, bi_len, bi_lenT, bi_abs, bi_int, bi_min2, bi_max2, bi_listL, bi_tupleL, bi_sum, W_ok, b_add, b_sub, b_mul, b_div, b_mod, b_pow, b_shl, b_shr, b_and, b_or, b_xor, c_eq, c_ne, c_lt, c_le, c_gt, c_ge, c_eqb, c_neb, c_non, c_isnon, c_isb, c_isnb, endK_ret, endK_next, rf_0, sw_0, rf_1, sw_1, rf_2, sw_2, rf_3, sw_3, rf_4, sw_4, rf_5, sw_5, rf_6, sw_6, rf_7, sw_7, tup_0, lst_0, tup_1, lst_1, tup_2, lst_2, tup_3, lst_3, tup_4, lst_4, tup_5, lst_5, tup_6, lst_6, tup_7, lst_7, endW_ret, endW_next, stepW_next, stepW_cnt, stepW_brk, stepW_ret, List.map_cons, List.map_nil, List.length_cons, List.length_nil, List.replicate, List.cons_append, List.nil_append, List.set_cons_zero, List.set_cons_succ, List.getElem?_cons_zero, List.getElem?_cons_succ, Option.some.injEq, D.int.injEq, D.bl.injEq, exEq, exists_eq_left', if_true, if_false, Bool.false_eq_true, decide_eq_true_eq, Option.isSome_some, true_and, reduceCtorEq, bit_p1, bit_p0, dec_false, dec_true, not_true_p, Int.toNat_natCast, Nat.reduceAdd, Nat.reduceSub]
  unfold aft
  split
  · exact ret_same rfl
  · split
    · exact ret_same rfl
    · exact ret_same rfl
theorem fits_ok {x y u v : Nat} {w z : Bool} : W (sem T P (k + 2) 14 [sg x y, sg u v, .bl w, .bl z] S) fun d S' => S' = S ∧ ∃ r, d = .bl r ∧ (x = u → y = v → r = true) := by
  refine W_run (cf := c14) rfl rfl rfl ?_
  have fz : ∀ (S : Sto) (Q : D → Sto → Prop), W (shut S (.ref S.length) (S ++ [.lst [.int 0, .int 1]])) Q = Q (.lst [.int 0, .int 1]) S := fun S Q => frz_lst rfl
  simp only [c14, List.length_map, b_nil, b_cons, k_next, k_ret, k_brk, k_cnt, f_for, f_comp, ss_pass, ss_ret, ss_retN, ss_expr, ss_set, ss_tset, ss_sub, ss_sfld, ss_aug, ss_ite, ss_for, ss_whl, ss_brk, ss_cnt, e_slot, e_non, e_bl, e_int, e_str, e_bin, e_neg, e_inv, e_cmp, e_chain, e_and, e_or, e_not, e_ife, e_tup, e_lst, e_call, e_mk, e_bi, e_met, e_om, e_idx, e_slc, e_fld, e_comp, e_frz, t_and, t_or, t_not, t_val, q_none, q_some, es_nil, es_cons, o_none, o_some, i_val, i_rng, i_rng2, i_enum, i_zip, i_rev, a_nm, a_tp, sets_nil, sets_cons, wipe_nil, wipe_cons, tru_bl, tru_int, seq_lst, seq_tup, lst_lst, bi_len, bi_lenT, bi_abs, bi_int, bi_min2, bi_max2, bi_listL, bi_tupleL, bi_sum, W_ok, b_add, b_sub, b_mul, b_div, b_mod, b_pow, b_shl, b_shr, b_and, b_or, b_xor, c_eq, c_ne, c_lt, c_le, c_gt, c_ge, c_eqb, c_neb, c_non, c_isnon, c_isb, c_isnb, endK_ret, endK_next, rf_0, sw_0, rf_1, sw_1, rf_2, sw_2, rf_3, sw_3, rf_4, sw_4, rf_5, sw_5, rf_6, sw_6, rf_7, sw_7, tup_0, lst_0, tup_1, lst_1, tup_2, lst_2, tup_3, lst_3, tup_4, lst_4, tup_5, lst_5, tup_6, lst_6, tup_7, lst_7, endW_ret, endW_next, stepW_next, stepW_cnt, stepW_brk, stepW_ret, List.map_cons, List.map_nil, List.length_cons, List.length_nil, List.replicate, List.cons_append, List.nil_append, List.set_cons_zero, List.set_cons_succ, List.getElem?_cons_zero, List.getElem?_cons_succ, Option.some.injEq, D.int.injEq, D.bl.injEq, exEq, exists_eq_left', if_true, if_false, Bool.false_eq_true, decide_eq_true_eq, Option.isSome_some, true_and, reduceCtorEq, bit_p1, bit_p0, dec_false, dec_true, not_true_p, Int.toNat_natCast, Nat.reduceAdd, Nat.reduceSub, fz]
  refine ⟨by decide, ?_⟩
  have rt : ∀ r : Bool, (x = u → y = v → r = true) → W (shutK S (.bl r) S) fun d S' => S' = S ∧ ∃ r, d = .bl r ∧ (x = u → y = v → r = true) := by
    intro r hr
    rw [end_same rfl]
    exact ⟨rfl, r, rfl, hr⟩
  refine W_forS (xs := [.int 0, .int 1]) (fun i σ S' => ∃ a b c, σ = [some (sg x y), some (sg u v), some (.bl w), some (.bl z), a, b, c] ∧ S' = S) (fun _ _ _ _ => seq_lst) ⟨_, _, _, rfl, rfl⟩ (fun i d σ S' hx hi h => ?_) (fun σ S' h => ?_)
  · obtain ⟨a, b, c, rfl, rfl⟩ := h
    have hd : ∃ m : Int, d = .int m := by
      match i, hi with
      | 0, _ => exact ⟨0, by simpa using hx.symm⟩
      | 1, _ => exact ⟨1, by simpa using hx.symm⟩
    obtain ⟨m, rfl⟩ := hd
    simp only [List.length_map, b_nil, b_cons, k_next, k_ret, k_brk, k_cnt, f_for, f_comp, ss_pass, ss_ret, ss_retN, ss_expr, ss_set, ss_tset, ss_sub, ss_sfld, ss_aug, ss_ite, ss_for, ss_whl, ss_brk, ss_cnt, e_slot, e_non, e_bl, e_int, e_str, e_bin, e_neg, e_inv, e_cmp, e_chain, e_and, e_or, e_not, e_ife, e_tup, e_lst, e_call, e_mk, e_bi, e_met, e_om, e_idx, e_slc, e_fld, e_comp, e_frz, t_and, t_or, t_not, t_val, q_none, q_some, es_nil, es_cons, o_none, o_some, i_val, i_rng, i_rng2, i_enum, i_zip, i_rev, a_nm, a_tp, sets_nil, sets_cons, wipe_nil, wipe_cons, tru_bl, tru_int, seq_lst, seq_tup, lst_lst, bi_len, bi_lenT, bi_abs, bi_int, bi_min2, bi_max2, bi_listL, bi_tupleL, bi_sum, W_ok, b_add, b_sub, b_mul, b_div, b_mod, b_pow, b_shl, b_shr, b_and, b_or, b_xor, c_eq, c_ne, c_lt, c_le, c_gt, c_ge, c_eqb, c_neb, c_non, c_isnon, c_isb, c_isnb, endK_ret, endK_next, rf_0, sw_0, rf_1, sw_1, rf_2, sw_2, rf_3, sw_3, rf_4, sw_4, rf_5, sw_5, rf_6, sw_6, rf_7, sw_7, tup_0, lst_0, tup_1, lst_1, tup_2, lst_2, tup_3, lst_3, tup_4, lst_4, tup_5, lst_5, tup_6, lst_6, tup_7, lst_7, endW_ret, endW_next, stepW_next, stepW_cnt, stepW_brk, stepW_ret, List.map_cons, List.map_nil, List.length_cons, List.length_nil, List.replicate, List.cons_append, List.nil_append, List.set_cons_zero, List.set_cons_succ, List.getElem?_cons_zero, List.getElem?_cons_succ, Option.some.injEq, D.int.injEq, D.bl.injEq, exEq, exists_eq_left', if_true, if_false, Bool.false_eq_true, decide_eq_true_eq, Option.isSome_some, true_and, reduceCtorEq, bit_p1, bit_p0, dec_false, dec_true, not_true_p, Int.toNat_natCast, Nat.reduceAdd, Nat.reduceSub, after_ok]
    have nx : ∀ a b c : Option D, ∃ a' b' c', [some (sg x y), some (sg u v), some (.bl w), some (.bl z), a, b, c] = [some (sg x y), some (sg u v), some (.bl w), some (.bl z), a', b', c'] ∧ S' = S' := fun a b c => ⟨a, b, c, rfl, rfl⟩
    repeat' split
    all_goals first
      | exact ⟨_, _, _, rfl, trivial⟩
      | (refine rt false (fun hx hy => ?_)
         subst hx hy
         exfalso
         simp_all)
  · obtain ⟨a, b, c, rfl, rfl⟩ := h
    simp only [List.length_map, b_nil, b_cons, k_next, k_ret, k_brk, k_cnt, f_for, f_comp, ss_pass, ss_ret, ss_retN, ss_expr, ss_set, ss_tset, ss_sub, ss_sfld, ss_aug, ss_ite, ss_for, ss_whl, ss_brk, ss_cnt, e_slot, e_non, e_bl, e_int, e_str, e_bin, e_neg, e_inv, e_cmp, e_chain, e_and, e_or, e_not, e_ife, e_tup, e_lst, e_call, e_mk, e_bi, e_met, e_om, e_idx, e_slc, e_fld, e_comp, e_frz, t_and, t_or, t_not, t_val, q_none, q_some, es_nil, es_cons, o_none, o_some, i_val, i_rng, i_rng2, i_enum, i_zip, i_rev, a_nm, a_tp, sets_nil, sets_cons, wipe_nil, wipe_cons, tru_bl, tru_int, seq_lst, seq_tup, lst_lst, bi_len, bi_lenT, bi_abs, bi_int, bi_min2, bi_max2, bi_listL, bi_tupleL, bi_sum, W_ok, b_add, b_sub, b_mul, b_div, b_mod, b_pow, b_shl, b_shr, b_and, b_or, b_xor, c_eq, c_ne, c_lt, c_le, c_gt, c_ge, c_eqb, c_neb, c_non, c_isnon, c_isb, c_isnb, endK_ret, endK_next, rf_0, sw_0, rf_1, sw_1, rf_2, sw_2, rf_3, sw_3, rf_4, sw_4, rf_5, sw_5, rf_6, sw_6, rf_7, sw_7, tup_0, lst_0, tup_1, lst_1, tup_2, lst_2, tup_3, lst_3, tup_4, lst_4, tup_5, lst_5, tup_6, lst_6, tup_7, lst_7, endW_ret, endW_next, stepW_next, stepW_cnt, stepW_brk, stepW_ret, List.map_cons, List.map_nil, List.length_cons, List.length_nil, List.replicate, List.cons_append, List.nil_append, List.set_cons_zero, List.set_cons_succ, List.getElem?_cons_zero, List.getElem?_cons_succ, Option.some.injEq, D.int.injEq, D.bl.injEq, exEq, exists_eq_left', if_true, if_false, Bool.false_eq_true, decide_eq_true_eq, Option.isSome_some, true_and, reduceCtorEq, bit_p1, bit_p0, dec_false, dec_true, not_true_p, Int.toNat_natCast, Nat.reduceAdd, Nat.reduceSub]
    exact rt true (fun _ _ => rfl)
/-- in what order they come -/
theorem beside_ok {S0 : Sto} {t b x y : Nat} {w z : Bool} (h : St t b S0 S) (hb : b < 2 ^ 50) (hx : x < 3) (hy : y < 3) : W (sem T P (k + 3) 16 [.ref t, sg x y, .bl w, .bl z] S) fun d S' => Sg d ∧ St t (b + 3) S0 S' := by
  refine W_run (cf := c16) rfl rfl rfl ?_
  simp only [c16, List.length_map, b_nil, b_cons, k_next, k_ret, k_brk, k_cnt, f_for, f_comp, ss_pass, ss_ret, ss_retN, ss_expr, ss_set, ss_tset, ss_sub, ss_sfld, ss_aug, ss_ite, ss_for, ss_whl, ss_brk, ss_cnt, e_slot, e_non, e_bl, e_int, e_str, e_bin, e_neg, e_inv, e_cmp, e_chain, e_and, e_or, e_not, e_ife, e_tup, e_lst, e_call, e_mk, e_bi, e_met, e_om, e_idx, e_slc, e_fld, e_comp, e_frz, t_and, t_or, t_not, t_val, q_none, q_some, es_nil, es_cons, o_none, o_some, i_val, i_rng, i_rng2, i_enum, i_zip, i_rev, a_nm, a_tp, sets_nil, sets_cons, wipe_nil, wipe_cons, tru_bl, tru_int, seq_lst, seq_tup, lst_lst, bi_len, bi_lenT, bi_abs, bi_int, bi_min2, bi_max2, bi_listL, bi_tupleL, bi_sum, W_ok, b_add, b_sub, b_mul, b_div, b_mod, b_pow, b_shl, b_shr, b_and, b_or, b_xor, c_eq, c_ne, c_lt, c_le, c_gt, c_ge, c_eqb, c_neb, c_non, c_isnon, c_isb, c_isnb, endK_ret, endK_next, rf_0, sw_0, rf_1, sw_1, rf_2, sw_2, rf_3, sw_3, rf_4, sw_4, rf_5, sw_5, rf_6, sw_6, rf_7, sw_7, tup_0, lst_0, tup_1, lst_1, tup_2, lst_2, tup_3, lst_3, tup_4, lst_4, tup_5, lst_5, tup_6, lst_6, tup_7, lst_7, endW_ret, endW_next, stepW_next, stepW_cnt, stepW_brk, stepW_ret, List.map_cons, List.map_nil, List.length_cons, List.length_nil, List.replicate, List.cons_append, List.nil_append, List.set_cons_zero, List.set_cons_succ, List.getElem?_cons_zero, List.getElem?_cons_succ, Option.some.injEq, D.int.injEq, D.bl.injEq, exEq, exists_eq_left', if_true, if_false, Bool.false_eq_true, decide_eq_true_eq, Option.isSome_some, true_and, reduceCtorEq, bit_p1, bit_p0, dec_false, dec_true, not_true_p, Int.toNat_natCast, Nat.reduceAdd, Nat.reduceSub]
  refine ⟨by decide, by decide, ?_⟩
  rw [show (3 : Int).toNat = 3 from rfl]
  refine W_forR0 (n := 3) (fun i σ S' => ∃ (a c : Option D) (L : List D), σ = [some (.ref t), some (sg x y), some (.bl w), some (.bl z), some (.ref S.length), a, c] ∧ S' = S ++ [.lst L] ∧ L.length ≤ 3 * i ∧ (∀ d ∈ L, Sg d) ∧ (x < i → L ≠ [])) ⟨_, _, [], rfl, rfl, by simp, (fun d h => by cases h), (fun h => by omega)⟩ (fun i σ S' hi g => ?_) (fun σ S' g => ?_)
  · obtain ⟨a, c, L, rfl, rfl, hl, hL, hne⟩ := g
    simp only [List.length_map, b_nil, b_cons, k_next, k_ret, k_brk, k_cnt, f_for, f_comp, ss_pass, ss_ret, ss_retN, ss_expr, ss_set, ss_tset, ss_sub, ss_sfld, ss_aug, ss_ite, ss_for, ss_whl, ss_brk, ss_cnt, e_slot, e_non, e_bl, e_int, e_str, e_bin, e_neg, e_inv, e_cmp, e_chain, e_and, e_or, e_not, e_ife, e_tup, e_lst, e_call, e_mk, e_bi, e_met, e_om, e_idx, e_slc, e_fld, e_comp, e_frz, t_and, t_or, t_not, t_val, q_none, q_some, es_nil, es_cons, o_none, o_some, i_val, i_rng, i_rng2, i_enum, i_zip, i_rev, a_nm, a_tp, sets_nil, sets_cons, wipe_nil, wipe_cons, tru_bl, tru_int, seq_lst, seq_tup, lst_lst, bi_len, bi_lenT, bi_abs, bi_int, bi_min2, bi_max2, bi_listL, bi_tupleL, bi_sum, W_ok, b_add, b_sub, b_mul, b_div, b_mod, b_pow, b_shl, b_shr, b_and, b_or, b_xor, c_eq, c_ne, c_lt, c_le, c_gt, c_ge, c_eqb, c_neb, c_non, c_isnon, c_isb, c_isnb, endK_ret, endK_next, rf_0, sw_0, rf_1, sw_1, rf_2, sw_2, rf_3, sw_3, rf_4, sw_4, rf_5, sw_5, rf_6, sw_6, rf_7, sw_7, tup_0, lst_0, tup_1, lst_1, tup_2, lst_2, tup_3, lst_3, tup_4, lst_4, tup_5, lst_5, tup_6, lst_6, tup_7, lst_7, endW_ret, endW_next, stepW_next, stepW_cnt, stepW_brk, stepW_ret, List.map_cons, List.map_nil, List.length_cons, List.length_nil, List.replicate, List.cons_append, List.nil_append, List.set_cons_zero, List.set_cons_succ, List.getElem?_cons_zero, List.getElem?_cons_succ, Option.some.injEq, D.int.injEq, D.bl.injEq, exEq, exists_eq_left', if_true, if_false, Bool.false_eq_true, decide_eq_true_eq, Option.isSome_some, true_and, reduceCtorEq, bit_p1, bit_p0, dec_false, dec_true, not_true_p, Int.toNat_natCast, Nat.reduceAdd, Nat.reduceSub]
    refine ⟨by decide, ?_⟩
    rw [show (3 : Int).toNat = 3 from rfl]
    refine W_forR0 (n := 3) (fun j σ S' => ∃ (c : Option D) (L : List D), σ = [some (.ref t), some (sg x y), some (.bl w), some (.bl z), some (.ref S.length), some (.int (i : Int)), c] ∧ S' = S ++ [.lst L] ∧ L.length ≤ 3 * i + j ∧ (∀ d ∈ L, Sg d) ∧ (x < i ∨ (x = i ∧ y < j) → L ≠ [])) ⟨_, L, rfl, rfl, by omega, hL, fun h => hne (by omega)⟩ (fun j σ S' hj g => ?_) (fun σ S' g => ?_)
    · obtain ⟨c, L, rfl, rfl, hl, hL, hne⟩ := g
      simp only [List.length_map, b_nil, b_cons, k_next, k_ret, k_brk, k_cnt, f_for, f_comp, ss_pass, ss_ret, ss_retN, ss_expr, ss_set, ss_tset, ss_sub, ss_sfld, ss_aug, ss_ite, ss_for, ss_whl, ss_brk, ss_cnt, e_slot, e_non, e_bl, e_int, e_str, e_bin, e_neg, e_inv, e_cmp, e_chain, e_and, e_or, e_not, e_ife, e_tup, e_lst, e_call, e_mk, e_bi, e_met, e_om, e_idx, e_slc, e_fld, e_comp, e_frz, t_and, t_or, t_not, t_val, q_none, q_some, es_nil, es_cons, o_none, o_some, i_val, i_rng, i_rng2, i_enum, i_zip, i_rev, a_nm, a_tp, sets_nil, sets_cons, wipe_nil, wipe_cons, tru_bl, tru_int, seq_lst, seq_tup, lst_lst, bi_len, bi_lenT, bi_abs, bi_int, bi_min2, bi_max2, bi_listL, bi_tupleL, bi_sum, W_ok, b_add, b_sub, b_mul, b_div, b_mod, b_pow, b_shl, b_shr, b_and, b_or, b_xor, c_eq, c_ne, c_lt, c_le, c_gt, c_ge, c_eqb, c_neb, c_non, c_isnon, c_isb, c_isnb, endK_ret, endK_next, rf_0, sw_0, rf_1, sw_1, rf_2, sw_2, rf_3, sw_3, rf_4, sw_4, rf_5, sw_5, rf_6, sw_6, rf_7, sw_7, tup_0, lst_0, tup_1, lst_1, tup_2, lst_2, tup_3, lst_3, tup_4, lst_4, tup_5, lst_5, tup_6, lst_6, tup_7, lst_7, endW_ret, endW_next, stepW_next, stepW_cnt, stepW_brk, stepW_ret, List.map_cons, List.map_nil, List.length_cons, List.length_nil, List.replicate, List.cons_append, List.nil_append, List.set_cons_zero, List.set_cons_succ, List.getElem?_cons_zero, List.getElem?_cons_succ, Option.some.injEq, D.int.injEq, D.bl.injEq, exEq, exists_eq_left', if_true, if_false, Bool.false_eq_true, decide_eq_true_eq, Option.isSome_some, true_and, reduceCtorEq, bit_p1, bit_p0, dec_false, dec_true, not_true_p, Int.toNat_natCast, Nat.reduceAdd, Nat.reduceSub]
      refine ⟨by decide, ?_⟩
      refine (fits_ok (x := x) (y := y) (u := i) (v := j)).mono fun d S2 q => ?_
      obtain ⟨rfl, r, rfl, hr⟩ := q
      simp only [List.length_map, b_nil, b_cons, k_next, k_ret, k_brk, k_cnt, f_for, f_comp, ss_pass, ss_ret, ss_retN, ss_expr, ss_set, ss_tset, ss_sub, ss_sfld, ss_aug, ss_ite, ss_for, ss_whl, ss_brk, ss_cnt, e_slot, e_non, e_bl, e_int, e_str, e_bin, e_neg, e_inv, e_cmp, e_chain, e_and, e_or, e_not, e_ife, e_tup, e_lst, e_call, e_mk, e_bi, e_met, e_om, e_idx, e_slc, e_fld, e_comp, e_frz, t_and, t_or, t_not, t_val, q_none, q_some, es_nil, es_cons, o_none, o_some, i_val, i_rng, i_rng2, i_enum, i_zip, i_rev, a_nm, a_tp, sets_nil, sets_cons, wipe_nil, wipe_cons, tru_bl, tru_int, seq_lst, seq_tup, lst_lst, bi_len, bi_lenT, bi_abs, bi_int, bi_min2, bi_max2, bi_listL, bi_tupleL, bi_sum, W_ok, b_add, b_sub, b_mul, b_div, b_mod, b_pow, b_shl, b_shr, b_and, b_or, b_xor, c_eq, c_ne, c_lt, c_le, c_gt, c_ge, c_eqb, c_neb, c_non, c_isnon, c_isb, c_isnb, endK_ret, endK_next, rf_0, sw_0, rf_1, sw_1, rf_2, sw_2, rf_3, sw_3, rf_4, sw_4, rf_5, sw_5, rf_6, sw_6, rf_7, sw_7, tup_0, lst_0, tup_1, lst_1, tup_2, lst_2, tup_3, lst_3, tup_4, lst_4, tup_5, lst_5, tup_6, lst_6, tup_7, lst_7, endW_ret, endW_next, stepW_next, stepW_cnt, stepW_brk, stepW_ret, List.map_cons, List.map_nil, List.length_cons, List.length_nil, List.replicate, List.cons_append, List.nil_append, List.set_cons_zero, List.set_cons_succ, List.getElem?_cons_zero, List.getElem?_cons_succ, Option.some.injEq, D.int.injEq, D.bl.injEq, exEq, exists_eq_left', if_true, if_false, Bool.false_eq_true, decide_eq_true_eq, Option.isSome_some, true_and, reduceCtorEq, bit_p1, bit_p0, dec_false, dec_true, not_true_p, Int.toNat_natCast, Nat.reduceAdd, Nat.reduceSub, lst_new]
      cases r with
      | true =>
        simp only [List.length_map, b_nil, b_cons, k_next, k_ret, k_brk, k_cnt, f_for, f_comp, ss_pass, ss_ret, ss_retN, ss_expr, ss_set, ss_tset, ss_sub, ss_sfld, ss_aug, ss_ite, ss_for, ss_whl, ss_brk, ss_cnt, e_slot, e_non, e_bl, e_int, e_str, e_bin, e_neg, e_inv, e_cmp, e_chain, e_and, e_or, e_not, e_ife, e_tup, e_lst, e_call, e_mk, e_bi, e_met, e_om, e_idx, e_slc, e_fld, e_comp, e_frz, t_and, t_or, t_not, t_val, q_none, q_some, es_nil, es_cons, o_none, o_some, i_val, i_rng, i_rng2, i_enum, i_zip, i_rev, a_nm, a_tp, sets_nil, sets_cons, wipe_nil, wipe_cons, tru_bl, tru_int, seq_lst, seq_tup, lst_lst, bi_len, bi_lenT, bi_abs, bi_int, bi_min2, bi_max2, bi_listL, bi_tupleL, bi_sum, W_ok, b_add, b_sub, b_mul, b_div, b_mod, b_pow, b_shl, b_shr, b_and, b_or, b_xor, c_eq, c_ne, c_lt, c_le, c_gt, c_ge, c_eqb, c_neb, c_non, c_isnon, c_isb, c_isnb, endK_ret, endK_next, rf_0, sw_0, rf_1, sw_1, rf_2, sw_2, rf_3, sw_3, rf_4, sw_4, rf_5, sw_5, rf_6, sw_6, rf_7, sw_7, tup_0, lst_0, tup_1, lst_1, tup_2, lst_2, tup_3, lst_3, tup_4, lst_4, tup_5, lst_5, tup_6, lst_6, tup_7, lst_7, endW_ret, endW_next, stepW_next, stepW_cnt, stepW_brk, stepW_ret, List.map_cons, List.map_nil, List.length_cons, List.length_nil, List.replicate, List.cons_append, List.nil_append, List.set_cons_zero, List.set_cons_succ, List.getElem?_cons_zero, List.getElem?_cons_succ, Option.some.injEq, D.int.injEq, D.bl.injEq, exEq, exists_eq_left', if_true, if_false, Bool.false_eq_true, decide_eq_true_eq, Option.isSome_some, true_and, reduceCtorEq, bit_p1, bit_p0, dec_false, dec_true, not_true_p, Int.toNat_natCast, Nat.reduceAdd, Nat.reduceSub]
        refine ⟨by decide, ?_⟩
        rw [app_new (Nat.lt_of_le_of_lt (show L.length ≤ 12 by omega) (by decide)), W_ok]
        refine ⟨_, _, rfl, rfl, by simp; omega, fun d hd => ?_, fun _ => by simp⟩
        rw [List.mem_append] at hd
        rcases hd with hd | hd
        · exact hL d hd
        · exact ⟨i, j, hi, hj, by simpa using hd⟩
      | false =>
        simp only [List.length_map, b_nil, b_cons, k_next, k_ret, k_brk, k_cnt, f_for, f_comp, ss_pass, ss_ret, ss_retN, ss_expr, ss_set, ss_tset, ss_sub, ss_sfld, ss_aug, ss_ite, ss_for, ss_whl, ss_brk, ss_cnt, e_slot, e_non, e_bl, e_int, e_str, e_bin, e_neg, e_inv, e_cmp, e_chain, e_and, e_or, e_not, e_ife, e_tup, e_lst, e_call, e_mk, e_bi, e_met, e_om, e_idx, e_slc, e_fld, e_comp, e_frz, t_and, t_or, t_not, t_val, q_none, q_some, es_nil, es_cons, o_none, o_some, i_val, i_rng, i_rng2, i_enum, i_zip, i_rev, a_nm, a_tp, sets_nil, sets_cons, wipe_nil, wipe_cons, tru_bl, tru_int, seq_lst, seq_tup, lst_lst, bi_len, bi_lenT, bi_abs, bi_int, bi_min2, bi_max2, bi_listL, bi_tupleL, bi_sum, W_ok, b_add, b_sub, b_mul, b_div, b_mod, b_pow, b_shl, b_shr, b_and, b_or, b_xor, c_eq, c_ne, c_lt, c_le, c_gt, c_ge, c_eqb, c_neb, c_non, c_isnon, c_isb, c_isnb, endK_ret, endK_next, rf_0, sw_0, rf_1, sw_1, rf_2, sw_2, rf_3, sw_3, rf_4, sw_4, rf_5, sw_5, rf_6, sw_6, rf_7, sw_7, tup_0, lst_0, tup_1, lst_1, tup_2, lst_2, tup_3, lst_3, tup_4, lst_4, tup_5, lst_5, tup_6, lst_6, tup_7, lst_7, endW_ret, endW_next, stepW_next, stepW_cnt, stepW_brk, stepW_ret, List.map_cons, List.map_nil, List.length_cons, List.length_nil, List.replicate, List.cons_append, List.nil_append, List.set_cons_zero, List.set_cons_succ, List.getElem?_cons_zero, List.getElem?_cons_succ, Option.some.injEq, D.int.injEq, D.bl.injEq, exEq, exists_eq_left', if_true, if_false, Bool.false_eq_true, decide_eq_true_eq, Option.isSome_some, true_and, reduceCtorEq, bit_p1, bit_p0, dec_false, dec_true, not_true_p, Int.toNat_natCast, Nat.reduceAdd, Nat.reduceSub]
        refine ⟨_, L, rfl, rfl, by omega, hL, fun g => hne ?_⟩
        rcases g with g | ⟨g1, g2⟩
        · exact .inl g
        · by_cases e : y = j
          · have := hr g1 e; cases this
          · exact .inr ⟨g1, by omega⟩
    · obtain ⟨c, L, rfl, rfl, hl, hL, hne⟩ := g
      simp only [List.length_map, b_nil, b_cons, k_next, k_ret, k_brk, k_cnt, f_for, f_comp, ss_pass, ss_ret, ss_retN, ss_expr, ss_set, ss_tset, ss_sub, ss_sfld, ss_aug, ss_ite, ss_for, ss_whl, ss_brk, ss_cnt, e_slot, e_non, e_bl, e_int, e_str, e_bin, e_neg, e_inv, e_cmp, e_chain, e_and, e_or, e_not, e_ife, e_tup, e_lst, e_call, e_mk, e_bi, e_met, e_om, e_idx, e_slc, e_fld, e_comp, e_frz, t_and, t_or, t_not, t_val, q_none, q_some, es_nil, es_cons, o_none, o_some, i_val, i_rng, i_rng2, i_enum, i_zip, i_rev, a_nm, a_tp, sets_nil, sets_cons, wipe_nil, wipe_cons, tru_bl, tru_int, seq_lst, seq_tup, lst_lst, bi_len, bi_lenT, bi_abs, bi_int, bi_min2, bi_max2, bi_listL, bi_tupleL, bi_sum, W_ok, b_add, b_sub, b_mul, b_div, b_mod, b_pow, b_shl, b_shr, b_and, b_or, b_xor, c_eq, c_ne, c_lt, c_le, c_gt, c_ge, c_eqb, c_neb, c_non, c_isnon, c_isb, c_isnb, endK_ret, endK_next, rf_0, sw_0, rf_1, sw_1, rf_2, sw_2, rf_3, sw_3, rf_4, sw_4, rf_5, sw_5, rf_6, sw_6, rf_7, sw_7, tup_0, lst_0, tup_1, lst_1, tup_2, lst_2, tup_3, lst_3, tup_4, lst_4, tup_5, lst_5, tup_6, lst_6, tup_7, lst_7, endW_ret, endW_next, stepW_next, stepW_cnt, stepW_brk, stepW_ret, List.map_cons, List.map_nil, List.length_cons, List.length_nil, List.replicate, List.cons_append, List.nil_append, List.set_cons_zero, List.set_cons_succ, List.getElem?_cons_zero, List.getElem?_cons_succ, Option.some.injEq, D.int.injEq, D.bl.injEq, exEq, exists_eq_left', if_true, if_false, Bool.false_eq_true, decide_eq_true_eq, Option.isSome_some, true_and, reduceCtorEq, bit_p1, bit_p0, dec_false, dec_true, not_true_p, Int.toNat_natCast, Nat.reduceAdd, Nat.reduceSub]
      exact ⟨_, _, L, rfl, rfl, by omega, hL, fun g => hne (by omega)⟩
  · obtain ⟨a, c, L, rfl, rfl, hl, hL, hne⟩ := g
    have hne := hne hx
    simp only [List.length_map, b_nil, b_cons, k_next, k_ret, k_brk, k_cnt, f_for, f_comp, ss_pass, ss_ret, ss_retN, ss_expr, ss_set, ss_tset, ss_sub, ss_sfld, ss_aug, ss_ite, ss_for, ss_whl, ss_brk, ss_cnt, e_slot, e_non, e_bl, e_int, e_str, e_bin, e_neg, e_inv, e_cmp, e_chain, e_and, e_or, e_not, e_ife, e_tup, e_lst, e_call, e_mk, e_bi, e_met, e_om, e_idx, e_slc, e_fld, e_comp, e_frz, t_and, t_or, t_not, t_val, q_none, q_some, es_nil, es_cons, o_none, o_some, i_val, i_rng, i_rng2, i_enum, i_zip, i_rev, a_nm, a_tp, sets_nil, sets_cons, wipe_nil, wipe_cons, tru_bl, tru_int, seq_lst, seq_tup, lst_lst, bi_len, bi_lenT, bi_abs, bi_int, bi_min2, bi_max2, bi_listL, bi_tupleL, bi_sum, W_ok, b_add, b_sub, b_mul, b_div, b_mod, b_pow, b_shl, b_shr, b_and, b_or, b_xor, c_eq, c_ne, c_lt, c_le, c_gt, c_ge, c_eqb, c_neb, c_non, c_isnon, c_isb, c_isnb, endK_ret, endK_next, rf_0, sw_0, rf_1, sw_1, rf_2, sw_2, rf_3, sw_3, rf_4, sw_4, rf_5, sw_5, rf_6, sw_6, rf_7, sw_7, tup_0, lst_0, tup_1, lst_1, tup_2, lst_2, tup_3, lst_3, tup_4, lst_4, tup_5, lst_5, tup_6, lst_6, tup_7, lst_7, endW_ret, endW_next, stepW_next, stepW_cnt, stepW_brk, stepW_ret, List.map_cons, List.map_nil, List.length_cons, List.length_nil, List.replicate, List.cons_append, List.nil_append, List.set_cons_zero, List.set_cons_succ, List.getElem?_cons_zero, List.getElem?_cons_succ, Option.some.injEq, D.int.injEq, D.bl.injEq, exEq, exists_eq_left', if_true, if_false, Bool.false_eq_true, decide_eq_true_eq, Option.isSome_some, true_and, reduceCtorEq, bit_p1, bit_p0, dec_false, dec_true, not_true_p, Int.toNat_natCast, Nat.reduceAdd, Nat.reduceSub]
    have tl : t < S.length := h.lt
    obtain ⟨o, ho, p⟩ := h.get
    have hS : St t b (S ++ [.lst L]) (S ++ [.lst L]) := St.self (get_old ho) p
    refine (take_St P6 hS (by omega) (by omega)).mono fun d S2 q => ?_
    obtain ⟨u, rfl, u0, u1, q⟩ := q
    -- the store, with its list
    obtain ⟨o2, rfl, p2, _⟩ := q
    have e2 : (S ++ [O.lst L]).set t o2 = S.set t o2 ++ [O.lst L] := by rw [List.set_append_left _ _ tl]
    have hS2 : St t (b + 1) S0 (S.set t o2) := by
      obtain ⟨o1, rfl, _, l⟩ := h
      exact ⟨o2, by rw [List.set_set], p2, l⟩
    have len2 : (S.set t o2).length = S.length := by simp
    rw [e2]
    have sq : seqOf (S.set t o2 ++ [O.lst L]) (.ref S.length) = some L := by rw [← len2]; exact seq_new
    simp only [List.length_map, b_nil, b_cons, k_next, k_ret, k_brk, k_cnt, f_for, f_comp, ss_pass, ss_ret, ss_retN, ss_expr, ss_set, ss_tset, ss_sub, ss_sfld, ss_aug, ss_ite, ss_for, ss_whl, ss_brk, ss_cnt, e_slot, e_non, e_bl, e_int, e_str, e_bin, e_neg, e_inv, e_cmp, e_chain, e_and, e_or, e_not, e_ife, e_tup, e_lst, e_call, e_mk, e_bi, e_met, e_om, e_idx, e_slc, e_fld, e_comp, e_frz, t_and, t_or, t_not, t_val, q_none, q_some, es_nil, es_cons, o_none, o_some, i_val, i_rng, i_rng2, i_enum, i_zip, i_rev, a_nm, a_tp, sets_nil, sets_cons, wipe_nil, wipe_cons, tru_bl, tru_int, seq_lst, seq_tup, lst_lst, bi_len, bi_lenT, bi_abs, bi_int, bi_min2, bi_max2, bi_listL, bi_tupleL, bi_sum, W_ok, b_add, b_sub, b_mul, b_div, b_mod, b_pow, b_shl, b_shr, b_and, b_or, b_xor, c_eq, c_ne, c_lt, c_le, c_gt, c_ge, c_eqb, c_neb, c_non, c_isnon, c_isb, c_isnb, endK_ret, endK_next, rf_0, sw_0, rf_1, sw_1, rf_2, sw_2, rf_3, sw_3, rf_4, sw_4, rf_5, sw_5, rf_6, sw_6, rf_7, sw_7, tup_0, lst_0, tup_1, lst_1, tup_2, lst_2, tup_3, lst_3, tup_4, lst_4, tup_5, lst_5, tup_6, lst_6, tup_7, lst_7, endW_ret, endW_next, stepW_next, stepW_cnt, stepW_brk, stepW_ret, List.map_cons, List.map_nil, List.length_cons, List.length_nil, List.replicate, List.cons_append, List.nil_append, List.set_cons_zero, List.set_cons_succ, List.getElem?_cons_zero, List.getElem?_cons_succ, Option.some.injEq, D.int.injEq, D.bl.injEq, exEq, exists_eq_left', if_true, if_false, Bool.false_eq_true, decide_eq_true_eq, Option.isSome_some, true_and, reduceCtorEq, bit_p1, bit_p0, dec_false, dec_true, not_true_p, Int.toNat_natCast, Nat.reduceAdd, Nat.reduceSub, bi_lenS sq]
    split
    · have hS3 : St t (b + 1) (S.set t o2 ++ [.lst L]) (S.set t o2 ++ [.lst L]) := St.self (o := o2) (get_old (by simp [tl])) p2
      refine (signs_ok hS3 (by omega)).mono fun d S3 q3 => ?_
      obtain ⟨hs, q3⟩ := q3
      obtain ⟨o3, rfl, p3, _⟩ := q3
      have e3 : (S.set t o2 ++ [O.lst L]).set t o3 = S.set t o3 ++ [O.lst L] := by rw [List.set_append_left _ _ (by simpa using tl), List.set_set]
      have hS4 : St t (b + 3) S0 (S.set t o3) := by
        obtain ⟨o1, rfl, _, l⟩ := h
        exact ⟨o3, by rw [List.set_set], p3.mono (by omega), l⟩
      rw [e3, h.ret2 hS4 (by obtain ⟨x, y, _, _, rfl⟩ := hs; rfl)]
      exact ⟨hs, hS4⟩
    · have hlp : 0 < L.length := List.length_pos_iff.mpr hne
      have hS3 : St t (b + 1) (S.set t o2 ++ [.lst L]) (S.set t o2 ++ [.lst L]) := St.self (o := o2) (get_old (by simp [tl])) p2
      refine (take_St P6 hS3 (by omega) (by omega)).mono fun d S3 q3 => ?_
      obtain ⟨v, rfl, v0, v1, q3⟩ := q3
      obtain ⟨o3, rfl, p3, _⟩ := q3
      have e3 : (S.set t o2 ++ [O.lst L]).set t o3 = S.set t o3 ++ [O.lst L] := by rw [List.set_append_left _ _ (by simpa using tl), List.set_set]
      have hS4 : St t (b + 3) S0 (S.set t o3) := by
        obtain ⟨o1, rfl, _, l⟩ := h
        exact ⟨o3, by rw [List.set_set], p3.mono (by omega), l⟩
      have len3 : (S.set t o3).length = S.length := by simp
      have sq3 : seqOf (S.set t o3 ++ [O.lst L]) (.ref S.length) = some L := by rw [← len3]; exact seq_new
      obtain ⟨m, rfl⟩ : ∃ m : Nat, v = m := ⟨v.toNat, by omega⟩
      have hm : m < L.length := by omega
      rw [e3]
      simp only [idx_S sq3 (List.getElem?_eq_getElem hm), List.length_map, b_nil, b_cons, k_next, k_ret, k_brk, k_cnt, f_for, f_comp, ss_pass, ss_ret, ss_retN, ss_expr, ss_set, ss_tset, ss_sub, ss_sfld, ss_aug, ss_ite, ss_for, ss_whl, ss_brk, ss_cnt, e_slot, e_non, e_bl, e_int, e_str, e_bin, e_neg, e_inv, e_cmp, e_chain, e_and, e_or, e_not, e_ife, e_tup, e_lst, e_call, e_mk, e_bi, e_met, e_om, e_idx, e_slc, e_fld, e_comp, e_frz, t_and, t_or, t_not, t_val, q_none, q_some, es_nil, es_cons, o_none, o_some, i_val, i_rng, i_rng2, i_enum, i_zip, i_rev, a_nm, a_tp, sets_nil, sets_cons, wipe_nil, wipe_cons, tru_bl, tru_int, seq_lst, seq_tup, lst_lst, bi_len, bi_lenT, bi_abs, bi_int, bi_min2, bi_max2, bi_listL, bi_tupleL, bi_sum, W_ok, b_add, b_sub, b_mul, b_div, b_mod, b_pow, b_shl, b_shr, b_and, b_or, b_xor, c_eq, c_ne, c_lt, c_le, c_gt, c_ge, c_eqb, c_neb, c_non, c_isnon, c_isb, c_isnb, endK_ret, endK_next, rf_0, sw_0, rf_1, sw_1, rf_2, sw_2, rf_3, sw_3, rf_4, sw_4, rf_5, sw_5, rf_6, sw_6, rf_7, sw_7, tup_0, lst_0, tup_1, lst_1, tup_2, lst_2, tup_3, lst_3, tup_4, lst_4, tup_5, lst_5, tup_6, lst_6, tup_7, lst_7, endW_ret, endW_next, stepW_next, stepW_cnt, stepW_brk, stepW_ret, List.map_cons, List.map_nil, List.length_cons, List.length_nil, List.replicate, List.cons_append, List.nil_append, List.set_cons_zero, List.set_cons_succ, List.getElem?_cons_zero, List.getElem?_cons_succ, Option.some.injEq, D.int.injEq, D.bl.injEq, exEq, exists_eq_left', if_true, if_false, Bool.false_eq_true, decide_eq_true_eq, Option.isSome_some, true_and, reduceCtorEq, bit_p1, bit_p0, dec_false, dec_true, not_true_p, Int.toNat_natCast, Nat.reduceAdd, Nat.reduceSub]
      have hs := hL _ (List.getElem_mem hm)
      rw [h.ret2 hS4 (by obtain ⟨x, y, _, _, e⟩ := hs; rw [e]; rfl)]
      exact ⟨hs, hS4⟩
end
end K19
namespace K19
open PySem Py
open Builtin (bitAnd bitOr bitNot bitXor)
def sxy : D → Nat × Nat
  | .tup [.int x, .int y] => (x.toNat, y.toNat)
  | _ => (0, 0)
theorem Sg.sxy {d : D} (h : Sg d) : d = .tup [.int ((sxy d).1 : Int), .int ((sxy d).2 : Int)] ∧ (sxy d).1 < 3 ∧ (sxy d).2 < 3 := by
  obtain ⟨x, y, hx, hy, rfl⟩ := h
  exact ⟨rfl, hx, hy⟩
section
variable {k N : Nat} {S : Sto}
theorem case_ok {c : Int} {d : D} {ds : List D} (hd : ∀ X, seqOf (S ++ X) d = some ds) (hN : ds.length = N) (hN6 : N ≤ 6) (hs : ∀ d ∈ ds, Sg d) : ∃ n b a e, Fc N n b a e ∧ sem T P (k + 1) 17 [.int c, d] S = .ok (own5 c n b a e) S := by
  let X : Nat → Nat := fun i => (sxy (ds.getD i .non)).1
  let Y : Nat → Nat := fun i => (sxy (ds.getD i .non)).2
  refine ⟨ofB (fun i => decide (X i = 1)) N, ofB (fun i => decide (X i = 2)) N, ofB (fun i => decide (Y i = 1)) N, ofB (fun i => decide (Y i = 2)) N, ?_, ?_⟩
  · have hi : ∀ (p : Nat → Bool) k, N ≤ k → ib (ofB p N) k = false := fun p k hk => by rw [ib_ofB]; simp [show ¬ k < N by omega]
    refine ⟨hi _, hi _, hi _, hi _, fun k hk => ?_, fun k hk => ?_⟩
    · rw [ib_ofB] at hk ⊢
      simp at hk ⊢
      omega
    · rw [ib_ofB] at hk ⊢
      simp at hk ⊢
      omega
  rw [← W_iff]
  refine W_run (cf := c17) rfl rfl rfl ?_
  simp only [c17, List.length_map, b_nil, b_cons, k_next, k_ret, k_brk, k_cnt, f_for, f_comp, ss_pass, ss_ret, ss_retN, ss_expr, ss_set, ss_tset, ss_sub, ss_sfld, ss_aug, ss_ite, ss_for, ss_whl, ss_brk, ss_cnt, e_slot, e_non, e_bl, e_int, e_str, e_bin, e_neg, e_inv, e_cmp, e_chain, e_and, e_or, e_not, e_ife, e_tup, e_lst, e_call, e_mk, e_bi, e_met, e_om, e_idx, e_slc, e_fld, e_comp, e_frz, t_and, t_or, t_not, t_val, q_none, q_some, es_nil, es_cons, o_none, o_some, i_val, i_rng, i_rng2, i_enum, i_zip, i_rev, a_nm, a_tp, sets_nil, sets_cons, wipe_nil, wipe_cons, tru_bl, tru_int, seq_lst, seq_tup, lst_lst, bi_len, bi_lenT, bi_abs, bi_int, bi_min2, bi_max2, bi_listL, bi_tupleL, bi_sum, W_ok, b_add, b_sub, b_mul, b_div, b_mod, b_pow, b_shl, b_shr, b_and, b_or, b_xor, c_eq, c_ne, c_lt, c_le, c_gt, c_ge, c_eqb, c_neb, c_non, c_isnon, c_isb, c_isnb, endK_ret, endK_next, rf_0, sw_0, rf_1, sw_1, rf_2, sw_2, rf_3, sw_3, rf_4, sw_4, rf_5, sw_5, rf_6, sw_6, rf_7, sw_7, tup_0, lst_0, tup_1, lst_1, tup_2, lst_2, tup_3, lst_3, tup_4, lst_4, tup_5, lst_5, tup_6, lst_6, tup_7, lst_7, endW_ret, endW_next, stepW_next, stepW_cnt, stepW_brk, stepW_ret, List.map_cons, List.map_nil, List.length_cons, List.length_nil, List.replicate, List.cons_append, List.nil_append, List.set_cons_zero, List.set_cons_succ, List.getElem?_cons_zero, List.getElem?_cons_succ, Option.some.injEq, D.int.injEq, D.bl.injEq, exEq, exists_eq_left', if_true, if_false, Bool.false_eq_true, decide_eq_true_eq, Option.isSome_some, true_and, reduceCtorEq, bit_p1, bit_p0, dec_false, dec_true, not_true_p, Int.toNat_natCast, Nat.reduceAdd, Nat.reduceSub, bi_lenS (hd _), hN]
  refine ⟨by decide, ⟨by omega, by omega⟩, ?_⟩
  refine W_forR0 (fun i σ S' => ∃ x, σ = [some (.int c), some d, some (.ref S.length), x] ∧ S' = S ++ [.lst [.int (ofB (fun i => decide (X i = 1)) i), .int (ofB (fun i => decide (X i = 2)) i), .int (ofB (fun i => decide (Y i = 1)) i), .int (ofB (fun i => decide (Y i = 2)) i)]]) ⟨_, rfl, rfl⟩ (fun i σ S' hi h => ?_) (fun σ S' h => ?_)
  · obtain ⟨x, rfl, rfl⟩ := h
    have hl : i < ds.length := by omega
    have hg : ds[i]? = some (ds.getD i .non) := by simp [hl]
    have hm : ds.getD i .non ∈ ds := by
      have := List.mem_of_getElem? hg
      exact this
    obtain ⟨e, hx, hy⟩ := (hs _ hm).sxy
    change X i < 3 at hx
    change Y i < 3 at hy
    have e : ds.getD i .non = .tup [.int (X i : Int), .int (Y i : Int)] := e
    rw [e] at hg
    have o1 := ofB_add (fun i => decide (X i = 1)) i
    have o2 := ofB_add (fun i => decide (X i = 2)) i
    have o3 := ofB_add (fun i => decide (Y i = 1)) i
    have o4 := ofB_add (fun i => decide (Y i = 2)) i
    have ixx : ∀ Z, idxD d (.int (i : Int)) (S ++ Z) = .ok (.tup [.int (X i : Int), .int (Y i : Int)]) (S ++ Z) := fun Z => idx_S (hd Z) hg
    have hx : X i = 0 ∨ X i = 1 ∨ X i = 2 := by omega
    have hy : Y i = 0 ∨ Y i = 1 ∨ Y i = 2 := by omega
    have s1 := shl1 (b := i) (by omega)
    rcases hx with hx | hx | hx <;> rcases hy with hy | hy | hy <;>
    · simp only [hx, hy, decide_true, decide_false, if_true, if_false, reduceCtorEq, Nat.reduceEqDiff, Bool.false_eq_true, Nat.zero_ne_one, Nat.one_ne_zero] at o1 o2 o3 o4
      rw [hx, hy] at ixx
      simp only [Int.cast_ofNat_Int, Int.natCast_one, Int.natCast_zero, Int.ofNat_zero, Int.ofNat_one] at ixx
      simp only [List.length_map, b_nil, b_cons, k_next, k_ret, k_brk, k_cnt, f_for, f_comp, ss_pass, ss_ret, ss_retN, ss_expr, ss_set, ss_tset, ss_sub, ss_sfld, ss_aug, ss_ite, ss_for, ss_whl, ss_brk, ss_cnt, e_slot, e_non, e_bl, e_int, e_str, e_bin, e_neg, e_inv, e_cmp, e_chain, e_and, e_or, e_not, e_ife, e_tup, e_lst, e_call, e_mk, e_bi, e_met, e_om, e_idx, e_slc, e_fld, e_comp, e_frz, t_and, t_or, t_not, t_val, q_none, q_some, es_nil, es_cons, o_none, o_some, i_val, i_rng, i_rng2, i_enum, i_zip, i_rev, a_nm, a_tp, sets_nil, sets_cons, wipe_nil, wipe_cons, tru_bl, tru_int, seq_lst, seq_tup, lst_lst, bi_len, bi_lenT, bi_abs, bi_int, bi_min2, bi_max2, bi_listL, bi_tupleL, bi_sum, W_ok, b_add, b_sub, b_mul, b_div, b_mod, b_pow, b_shl, b_shr, b_and, b_or, b_xor, c_eq, c_ne, c_lt, c_le, c_gt, c_ge, c_eqb, c_neb, c_non, c_isnon, c_isb, c_isnb, endK_ret, endK_next, rf_0, sw_0, rf_1, sw_1, rf_2, sw_2, rf_3, sw_3, rf_4, sw_4, rf_5, sw_5, rf_6, sw_6, rf_7, sw_7, tup_0, lst_0, tup_1, lst_1, tup_2, lst_2, tup_3, lst_3, tup_4, lst_4, tup_5, lst_5, tup_6, lst_6, tup_7, lst_7, endW_ret, endW_next, stepW_next, stepW_cnt, stepW_brk, stepW_ret, List.map_cons, List.map_nil, List.length_cons, List.length_nil, List.replicate, List.cons_append, List.nil_append, List.set_cons_zero, List.set_cons_succ, List.getElem?_cons_zero, List.getElem?_cons_succ, Option.some.injEq, D.int.injEq, D.bl.injEq, exEq, exists_eq_left', if_true, if_false, Bool.false_eq_true, decide_eq_true_eq, Option.isSome_some, true_and, reduceCtorEq, bit_p1, bit_p0, dec_false, dec_true, not_true_p, Int.toNat_natCast, Nat.reduceAdd, Nat.reduceSub, ixx, o1, o2, o3, o4, Int.reduceSub, Int.reduceAdd, Int.reduceLT, Int.lt_irrefl, decide_true, decide_false]
      first
        | exact ⟨s1, s1, _, rfl, by trivial⟩
        | exact ⟨s1, _, rfl, by trivial⟩
        | exact ⟨_, rfl, by trivial⟩
  · obtain ⟨x, rfl, rfl⟩ := h
    simp only [List.length_map, b_nil, b_cons, k_next, k_ret, k_brk, k_cnt, f_for, f_comp, ss_pass, ss_ret, ss_retN, ss_expr, ss_set, ss_tset, ss_sub, ss_sfld, ss_aug, ss_ite, ss_for, ss_whl, ss_brk, ss_cnt, e_slot, e_non, e_bl, e_int, e_str, e_bin, e_neg, e_inv, e_cmp, e_chain, e_and, e_or, e_not, e_ife, e_tup, e_lst, e_call, e_mk, e_bi, e_met, e_om, e_idx, e_slc, e_fld, e_comp, e_frz, t_and, t_or, t_not, t_val, q_none, q_some, es_nil, es_cons, o_none, o_some, i_val, i_rng, i_rng2, i_enum, i_zip, i_rev, a_nm, a_tp, sets_nil, sets_cons, wipe_nil, wipe_cons, tru_bl, tru_int, seq_lst, seq_tup, lst_lst, bi_len, bi_lenT, bi_abs, bi_int, bi_min2, bi_max2, bi_listL, bi_tupleL, bi_sum, W_ok, b_add, b_sub, b_mul, b_div, b_mod, b_pow, b_shl, b_shr, b_and, b_or, b_xor, c_eq, c_ne, c_lt, c_le, c_gt, c_ge, c_eqb, c_neb, c_non, c_isnon, c_isb, c_isnb, endK_ret, endK_next, rf_0, sw_0, rf_1, sw_1, rf_2, sw_2, rf_3, sw_3, rf_4, sw_4, rf_5, sw_5, rf_6, sw_6, rf_7, sw_7, tup_0, lst_0, tup_1, lst_1, tup_2, lst_2, tup_3, lst_3, tup_4, lst_4, tup_5, lst_5, tup_6, lst_6, tup_7, lst_7, endW_ret, endW_next, stepW_next, stepW_cnt, stepW_brk, stepW_ret, List.map_cons, List.map_nil, List.length_cons, List.length_nil, List.replicate, List.cons_append, List.nil_append, List.set_cons_zero, List.set_cons_succ, List.getElem?_cons_zero, List.getElem?_cons_succ, Option.some.injEq, D.int.injEq, D.bl.injEq, exEq, exists_eq_left', if_true, if_false, Bool.false_eq_true, decide_eq_true_eq, Option.isSome_some, true_and, reduceCtorEq, bit_p1, bit_p0, dec_false, dec_true, not_true_p, Int.toNat_natCast, Nat.reduceAdd, Nat.reduceSub]
    rw [end_new rfl]
    exact ⟨by decide, rfl, rfl⟩
end
end K19
namespace K19
open PySem Py
open Builtin (bitAnd bitOr bitNot bitXor)
/-- a room's data -/
def Rm (N : Nat) (d : List D) : Prop := ∃ pl r1 r2 r3 r4, d = [.lst (nl pl), .int r1, .int r2, .int r3, .int r4] ∧ Pl N pl ∧ Fre N pl r1 ∧ Fre N pl r2 ∧ Fre N pl r3 ∧ Fre N pl r4
theorem Rm.pures {N : Nat} {d : List D} (h : Rm N d) : D.pures d = true := by
  obtain ⟨pl, r1, r2, r3, r4, rfl, _⟩ := h
  rw [D.pures, D.pure, pures_nl]; rfl
theorem fre_0 {N : Nat} {pl : List Nat} : Fre N pl 0 := fun k _ => ib_0 _
section
variable {k N : Nat} {S0 S : Sto} {t b : Nat}
theorem room_ok (h : St t b S0 S) (hb : b < 2 ^ 45) (hN : N ≤ 5) : W (sem T P (k + 3) 19 [.ref t, .int (N : Int)] S) fun d S' => ∃ (x : List D) (S1 : Sto), Rm N x ∧ d = .ref S1.length ∧ S' = S1 ++ [.lst x] ∧ St t (b + 500) S0 S1 := by
  refine W_run (cf := c19) rfl rfl rfl ?_
  simp only [c19, List.length_map, b_nil, b_cons, k_next, k_ret, k_brk, k_cnt, f_for, f_comp, ss_pass, ss_ret, ss_retN, ss_expr, ss_set, ss_tset, ss_sub, ss_sfld, ss_aug, ss_ite, ss_for, ss_whl, ss_brk, ss_cnt, e_slot, e_non, e_bl, e_int, e_str, e_bin, e_neg, e_inv, e_cmp, e_chain, e_and, e_or, e_not, e_ife, e_tup, e_lst, e_call, e_mk, e_bi, e_met, e_om, e_idx, e_slc, e_fld, e_comp, e_frz, t_and, t_or, t_not, t_val, q_none, q_some, es_nil, es_cons, o_none, o_some, i_val, i_rng, i_rng2, i_enum, i_zip, i_rev, a_nm, a_tp, sets_nil, sets_cons, wipe_nil, wipe_cons, tru_bl, tru_int, seq_lst, seq_tup, lst_lst, bi_len, bi_lenT, bi_abs, bi_int, bi_min2, bi_max2, bi_listL, bi_tupleL, bi_sum, W_ok, b_add, b_sub, b_mul, b_div, b_mod, b_pow, b_shl, b_shr, b_and, b_or, b_xor, c_eq, c_ne, c_lt, c_le, c_gt, c_ge, c_eqb, c_neb, c_non, c_isnon, c_isb, c_isnb, endK_ret, endK_next, rf_0, sw_0, rf_1, sw_1, rf_2, sw_2, rf_3, sw_3, rf_4, sw_4, rf_5, sw_5, rf_6, sw_6, rf_7, sw_7, tup_0, lst_0, tup_1, lst_1, tup_2, lst_2, tup_3, lst_3, tup_4, lst_4, tup_5, lst_5, tup_6, lst_6, tup_7, lst_7, endW_ret, endW_next, stepW_next, stepW_cnt, stepW_brk, stepW_ret, List.map_cons, List.map_nil, List.length_cons, List.length_nil, List.replicate, List.cons_append, List.nil_append, List.set_cons_zero, List.set_cons_succ, List.getElem?_cons_zero, List.getElem?_cons_succ, Option.some.injEq, D.int.injEq, D.bl.injEq, exEq, exists_eq_left', if_true, if_false, Bool.false_eq_true, decide_eq_true_eq, Option.isSome_some, true_and, reduceCtorEq, bit_p1, bit_p0, dec_false, dec_true, not_true_p, Int.toNat_natCast, Nat.reduceAdd, Nat.reduceSub]
  refine (take_St P6 h (by omega) (by omega)).mono fun d S1 q => ?_
  obtain ⟨u, rfl, u0, u1, q⟩ := q
  simp only [List.length_map, b_nil, b_cons, k_next, k_ret, k_brk, k_cnt, f_for, f_comp, ss_pass, ss_ret, ss_retN, ss_expr, ss_set, ss_tset, ss_sub, ss_sfld, ss_aug, ss_ite, ss_for, ss_whl, ss_brk, ss_cnt, e_slot, e_non, e_bl, e_int, e_str, e_bin, e_neg, e_inv, e_cmp, e_chain, e_and, e_or, e_not, e_ife, e_tup, e_lst, e_call, e_mk, e_bi, e_met, e_om, e_idx, e_slc, e_fld, e_comp, e_frz, t_and, t_or, t_not, t_val, q_none, q_some, es_nil, es_cons, o_none, o_some, i_val, i_rng, i_rng2, i_enum, i_zip, i_rev, a_nm, a_tp, sets_nil, sets_cons, wipe_nil, wipe_cons, tru_bl, tru_int, seq_lst, seq_tup, lst_lst, bi_len, bi_lenT, bi_abs, bi_int, bi_min2, bi_max2, bi_listL, bi_tupleL, bi_sum, W_ok, b_add, b_sub, b_mul, b_div, b_mod, b_pow, b_shl, b_shr, b_and, b_or, b_xor, c_eq, c_ne, c_lt, c_le, c_gt, c_ge, c_eqb, c_neb, c_non, c_isnon, c_isb, c_isnb, endK_ret, endK_next, rf_0, sw_0, rf_1, sw_1, rf_2, sw_2, rf_3, sw_3, rf_4, sw_4, rf_5, sw_5, rf_6, sw_6, rf_7, sw_7, tup_0, lst_0, tup_1, lst_1, tup_2, lst_2, tup_3, lst_3, tup_4, lst_4, tup_5, lst_5, tup_6, lst_6, tup_7, lst_7, endW_ret, endW_next, stepW_next, stepW_cnt, stepW_brk, stepW_ret, List.map_cons, List.map_nil, List.length_cons, List.length_nil, List.replicate, List.cons_append, List.nil_append, List.set_cons_zero, List.set_cons_succ, List.getElem?_cons_zero, List.getElem?_cons_succ, Option.some.injEq, D.int.injEq, D.bl.injEq, exEq, exists_eq_left', if_true, if_false, Bool.false_eq_true, decide_eq_true_eq, Option.isSome_some, true_and, reduceCtorEq, bit_p1, bit_p0, dec_false, dec_true, not_true_p, Int.toNat_natCast, Nat.reduceAdd, Nat.reduceSub]
  split
  · refine ⟨⟨by omega, by omega⟩, ?_⟩
    rw [compR0 (n := N) (fun j => if true then some (.int (j : Int)) else none) (Nat.le_trans hN (by decide)) (fun j _ => ?_)]
    · rw [filterMap_nl (fun _ => true)]
      simp only [List.length_map, b_nil, b_cons, k_next, k_ret, k_brk, k_cnt, f_for, f_comp, ss_pass, ss_ret, ss_retN, ss_expr, ss_set, ss_tset, ss_sub, ss_sfld, ss_aug, ss_ite, ss_for, ss_whl, ss_brk, ss_cnt, e_slot, e_non, e_bl, e_int, e_str, e_bin, e_neg, e_inv, e_cmp, e_chain, e_and, e_or, e_not, e_ife, e_tup, e_lst, e_call, e_mk, e_bi, e_met, e_om, e_idx, e_slc, e_fld, e_comp, e_frz, t_and, t_or, t_not, t_val, q_none, q_some, es_nil, es_cons, o_none, o_some, i_val, i_rng, i_rng2, i_enum, i_zip, i_rev, a_nm, a_tp, sets_nil, sets_cons, wipe_nil, wipe_cons, tru_bl, tru_int, seq_lst, seq_tup, lst_lst, bi_len, bi_lenT, bi_abs, bi_int, bi_min2, bi_max2, bi_listL, bi_tupleL, bi_sum, W_ok, b_add, b_sub, b_mul, b_div, b_mod, b_pow, b_shl, b_shr, b_and, b_or, b_xor, c_eq, c_ne, c_lt, c_le, c_gt, c_ge, c_eqb, c_neb, c_non, c_isnon, c_isb, c_isnb, endK_ret, endK_next, rf_0, sw_0, rf_1, sw_1, rf_2, sw_2, rf_3, sw_3, rf_4, sw_4, rf_5, sw_5, rf_6, sw_6, rf_7, sw_7, tup_0, lst_0, tup_1, lst_1, tup_2, lst_2, tup_3, lst_3, tup_4, lst_4, tup_5, lst_5, tup_6, lst_6, tup_7, lst_7, endW_ret, endW_next, stepW_next, stepW_cnt, stepW_brk, stepW_ret, List.map_cons, List.map_nil, List.length_cons, List.length_nil, List.replicate, List.cons_append, List.nil_append, List.set_cons_zero, List.set_cons_succ, List.getElem?_cons_zero, List.getElem?_cons_succ, Option.some.injEq, D.int.injEq, D.bl.injEq, exEq, exists_eq_left', if_true, if_false, Bool.false_eq_true, decide_eq_true_eq, Option.isSome_some, true_and, reduceCtorEq, bit_p1, bit_p0, dec_false, dec_true, not_true_p, Int.toNat_natCast, Nat.reduceAdd, Nat.reduceSub, frz_lst (pures_nl _), show (List.range N).filter (fun _ => true) = List.range N by simp]
      refine ⟨by decide, ?_⟩
      have hl : ∀ i, i < N → (List.range N).getD i 0 = i := fun i hi => by simp [hi]
      have hr : Rm N [.lst (nl (List.range N)), .int 0, .int 0, .int 0, .int 0] := ⟨_, _, _, _, _, rfl, ⟨by simp, fun i j hi hj e => by rw [hl i hi, hl j hj] at e; exact e, fun i hi => by rw [hl i hi]; omega⟩, fre_0, fre_0, fre_0, fre_0⟩
      rw [h.retL q hr.pures]
      exact ⟨_, S1, hr, rfl, rfl, q.mono (by omega)⟩
    · rw [← W_iff]
      simp only [List.length_map, b_nil, b_cons, k_next, k_ret, k_brk, k_cnt, f_for, f_comp, ss_pass, ss_ret, ss_retN, ss_expr, ss_set, ss_tset, ss_sub, ss_sfld, ss_aug, ss_ite, ss_for, ss_whl, ss_brk, ss_cnt, e_slot, e_non, e_bl, e_int, e_str, e_bin, e_neg, e_inv, e_cmp, e_chain, e_and, e_or, e_not, e_ife, e_tup, e_lst, e_call, e_mk, e_bi, e_met, e_om, e_idx, e_slc, e_fld, e_comp, e_frz, t_and, t_or, t_not, t_val, q_none, q_some, es_nil, es_cons, o_none, o_some, i_val, i_rng, i_rng2, i_enum, i_zip, i_rev, a_nm, a_tp, sets_nil, sets_cons, wipe_nil, wipe_cons, tru_bl, tru_int, seq_lst, seq_tup, lst_lst, bi_len, bi_lenT, bi_abs, bi_int, bi_min2, bi_max2, bi_listL, bi_tupleL, bi_sum, W_ok, b_add, b_sub, b_mul, b_div, b_mod, b_pow, b_shl, b_shr, b_and, b_or, b_xor, c_eq, c_ne, c_lt, c_le, c_gt, c_ge, c_eqb, c_neb, c_non, c_isnon, c_isb, c_isnb, endK_ret, endK_next, rf_0, sw_0, rf_1, sw_1, rf_2, sw_2, rf_3, sw_3, rf_4, sw_4, rf_5, sw_5, rf_6, sw_6, rf_7, sw_7, tup_0, lst_0, tup_1, lst_1, tup_2, lst_2, tup_3, lst_3, tup_4, lst_4, tup_5, lst_5, tup_6, lst_6, tup_7, lst_7, endW_ret, endW_next, stepW_next, stepW_cnt, stepW_brk, stepW_ret, List.map_cons, List.map_nil, List.length_cons, List.length_nil, List.replicate, List.cons_append, List.nil_append, List.set_cons_zero, List.set_cons_succ, List.getElem?_cons_zero, List.getElem?_cons_succ, Option.some.injEq, D.int.injEq, D.bl.injEq, exEq, exists_eq_left', if_true, if_false, Bool.false_eq_true, decide_eq_true_eq, Option.isSome_some, true_and, reduceCtorEq, bit_p1, bit_p0, dec_false, dec_true, not_true_p, Int.toNat_natCast, Nat.reduceAdd, Nat.reduceSub]
  · refine ⟨by decide, ?_⟩
    have q1 := q.ext [O.lst []]
    refine (take_St P6 q1 (by omega) (by omega)).mono fun d S2 q2 => ?_
    obtain ⟨v, rfl, v0, v1, q2⟩ := q2
    obtain ⟨S3, rfl, q3, l3⟩ := q.unext q2
    obtain ⟨at0, rfl⟩ : ∃ m : Nat, v = m := ⟨v.toNat, by omega⟩
    rw [← l3]
    refine ⟨⟨by omega, by omega⟩, ?_⟩
    refine W_forR0 (fun i σ S' => ∃ (a : Nat) (x5 x6 x7 x4 : Option D) (pl : List Nat) (S4 : Sto), σ = [some (.ref t), some (.int (N : Int)), some (.ref S3.length), some (.int (a : Int)), x4, x5, x6, x7] ∧ S' = S4 ++ [.lst (nl pl)] ∧ S4.length = S3.length ∧ St t (b + 2 + i) S0 S4 ∧ pl.length = i ∧ a ≤ 7 + 14 * i ∧ (∀ x ∈ pl, x < a ∧ x < 64) ∧ ∀ i j, i < j → j < pl.length → pl.getD i 0 < pl.getD j 0)
      ⟨at0, _, _, _, _, [], S3, rfl, rfl, rfl, q3.mono (by omega), rfl, by omega, (fun x h => by cases h), (fun i j _ h => by simp at h)⟩ (fun i σ S' hi g => ?_) (fun σ S' g => ?_)
    · obtain ⟨a, x5, x6, x7, x4, pl, S4, rfl, rfl, l4, q4, hl, ha, hlt, hinc⟩ := g
      rw [← l4]
      simp only [List.length_map, b_nil, b_cons, k_next, k_ret, k_brk, k_cnt, f_for, f_comp, ss_pass, ss_ret, ss_retN, ss_expr, ss_set, ss_tset, ss_sub, ss_sfld, ss_aug, ss_ite, ss_for, ss_whl, ss_brk, ss_cnt, e_slot, e_non, e_bl, e_int, e_str, e_bin, e_neg, e_inv, e_cmp, e_chain, e_and, e_or, e_not, e_ife, e_tup, e_lst, e_call, e_mk, e_bi, e_met, e_om, e_idx, e_slc, e_fld, e_comp, e_frz, t_and, t_or, t_not, t_val, q_none, q_some, es_nil, es_cons, o_none, o_some, i_val, i_rng, i_rng2, i_enum, i_zip, i_rev, a_nm, a_tp, sets_nil, sets_cons, wipe_nil, wipe_cons, tru_bl, tru_int, seq_lst, seq_tup, lst_lst, bi_len, bi_lenT, bi_abs, bi_int, bi_min2, bi_max2, bi_listL, bi_tupleL, bi_sum, W_ok, b_add, b_sub, b_mul, b_div, b_mod, b_pow, b_shl, b_shr, b_and, b_or, b_xor, c_eq, c_ne, c_lt, c_le, c_gt, c_ge, c_eqb, c_neb, c_non, c_isnon, c_isb, c_isnb, endK_ret, endK_next, rf_0, sw_0, rf_1, sw_1, rf_2, sw_2, rf_3, sw_3, rf_4, sw_4, rf_5, sw_5, rf_6, sw_6, rf_7, sw_7, tup_0, lst_0, tup_1, lst_1, tup_2, lst_2, tup_3, lst_3, tup_4, lst_4, tup_5, lst_5, tup_6, lst_6, tup_7, lst_7, endW_ret, endW_next, stepW_next, stepW_cnt, stepW_brk, stepW_ret, List.map_cons, List.map_nil, List.length_cons, List.length_nil, List.replicate, List.cons_append, List.nil_append, List.set_cons_zero, List.set_cons_succ, List.getElem?_cons_zero, List.getElem?_cons_succ, Option.some.injEq, D.int.injEq, D.bl.injEq, exEq, exists_eq_left', if_true, if_false, Bool.false_eq_true, decide_eq_true_eq, Option.isSome_some, true_and, reduceCtorEq, bit_p1, bit_p0, dec_false, dec_true, not_true_p, Int.toNat_natCast, Nat.reduceAdd, Nat.reduceSub, lst_new]
      rw [app_new (by rw [List.length_map, hl]; exact Nat.lt_of_lt_of_le hi (Nat.le_trans hN (by decide))), W_ok]
      have q5 := q4.ext [O.lst (nl pl ++ [.int (a : Int)])]
      refine (take_St P6 q5 (by omega) (by omega)).mono fun d S5 q6 => ?_
      obtain ⟨v, rfl, v0, v1, q6⟩ := q6
      obtain ⟨S6, rfl, q7, l6⟩ := q4.unext q6
      obtain ⟨w, rfl⟩ : ∃ m : Nat, v = m := ⟨v.toNat, by omega⟩
      simp only [List.length_map, b_nil, b_cons, k_next, k_ret, k_brk, k_cnt, f_for, f_comp, ss_pass, ss_ret, ss_retN, ss_expr, ss_set, ss_tset, ss_sub, ss_sfld, ss_aug, ss_ite, ss_for, ss_whl, ss_brk, ss_cnt, e_slot, e_non, e_bl, e_int, e_str, e_bin, e_neg, e_inv, e_cmp, e_chain, e_and, e_or, e_not, e_ife, e_tup, e_lst, e_call, e_mk, e_bi, e_met, e_om, e_idx, e_slc, e_fld, e_comp, e_frz, t_and, t_or, t_not, t_val, q_none, q_some, es_nil, es_cons, o_none, o_some, i_val, i_rng, i_rng2, i_enum, i_zip, i_rev, a_nm, a_tp, sets_nil, sets_cons, wipe_nil, wipe_cons, tru_bl, tru_int, seq_lst, seq_tup, lst_lst, bi_len, bi_lenT, bi_abs, bi_int, bi_min2, bi_max2, bi_listL, bi_tupleL, bi_sum, W_ok, b_add, b_sub, b_mul, b_div, b_mod, b_pow, b_shl, b_shr, b_and, b_or, b_xor, c_eq, c_ne, c_lt, c_le, c_gt, c_ge, c_eqb, c_neb, c_non, c_isnon, c_isb, c_isnb, endK_ret, endK_next, rf_0, sw_0, rf_1, sw_1, rf_2, sw_2, rf_3, sw_3, rf_4, sw_4, rf_5, sw_5, rf_6, sw_6, rf_7, sw_7, tup_0, lst_0, tup_1, lst_1, tup_2, lst_2, tup_3, lst_3, tup_4, lst_4, tup_5, lst_5, tup_6, lst_6, tup_7, lst_7, endW_ret, endW_next, stepW_next, stepW_cnt, stepW_brk, stepW_ret, List.map_cons, List.map_nil, List.length_cons, List.length_nil, List.replicate, List.cons_append, List.nil_append, List.set_cons_zero, List.set_cons_succ, List.getElem?_cons_zero, List.getElem?_cons_succ, Option.some.injEq, D.int.injEq, D.bl.injEq, exEq, exists_eq_left', if_true, if_false, Bool.false_eq_true, decide_eq_true_eq, Option.isSome_some, true_and, reduceCtorEq, bit_p1, bit_p0, dec_false, dec_true, not_true_p, Int.toNat_natCast, Nat.reduceAdd, Nat.reduceSub]
      refine ⟨a + 1 + w, x5, x6, x7, some (.int (i : Int)), pl ++ [a], S6, by rw [l4]; simp, by simp, by omega, q7.mono (by omega), by simp [hl], by omega, fun x hx => ?_, fun i' j' h1 h2 => ?_⟩
      · rw [List.mem_append] at hx
        rcases hx with hx | hx
        · have := hlt x hx; omega
        · have : x = a := by simpa using hx
          omega
      · rw [List.length_append] at h2
        have h2 : j' < pl.length + 1 := by simpa using h2
        have e1 : (pl ++ [a]).getD i' 0 = pl.getD i' 0 := by
          simp [List.getElem?_append_left (show i' < pl.length by omega)]
        rw [e1]
        by_cases hj : j' < pl.length
        · have e2 : (pl ++ [a]).getD j' 0 = pl.getD j' 0 := by simp [List.getElem?_append_left hj]
          rw [e2]; exact hinc i' j' h1 hj
        · have e2 : (pl ++ [a]).getD j' 0 = a := by
            rw [show j' = pl.length by omega]; simp
          rw [e2]
          have hm : pl.getD i' 0 ∈ pl := by
            rw [List.getD_eq_getElem?_getD, List.getElem?_eq_getElem (show i' < pl.length by omega)]
            exact List.getElem_mem _
          exact (hlt _ hm).1
    · obtain ⟨a, x5, x6, x7, x4, pl, S4, rfl, rfl, l4, q4, hl, ha, hlt, hinc⟩ := g
      have hp : Pl N pl := by
        refine ⟨hl, fun i j hi hj e => ?_, fun i hi => ?_⟩
        · rcases Nat.lt_trichotomy i j with g | g | g
          · have := hinc i j g (by omega); omega
          · exact g
          · have := hinc j i g (by omega); omega
        · have hm : pl.getD i 0 ∈ pl := by
            rw [List.getD_eq_getElem?_getD, List.getElem?_eq_getElem (show i < pl.length by omega)]
            exact List.getElem_mem _
          exact (hlt _ hm).2
      have s64 := shl1 (b := 64) (by omega)
      have pk : sem T P (k + 2) 18 [.int (1 * 2 ^ N - 1), .ref S3.length] (S4 ++ [.lst (nl pl)]) = .ok (.int (plc (1 * 2 ^ N - 1) pl N)) (S4 ++ [.lst (nl pl)]) := by
        rw [← l4, placed_ok seq_new (by omega) (fun i hi => hp.lt i (by omega)), hl]
      simp only [List.length_map, b_nil, b_cons, k_next, k_ret, k_brk, k_cnt, f_for, f_comp, ss_pass, ss_ret, ss_retN, ss_expr, ss_set, ss_tset, ss_sub, ss_sfld, ss_aug, ss_ite, ss_for, ss_whl, ss_brk, ss_cnt, e_slot, e_non, e_bl, e_int, e_str, e_bin, e_neg, e_inv, e_cmp, e_chain, e_and, e_or, e_not, e_ife, e_tup, e_lst, e_call, e_mk, e_bi, e_met, e_om, e_idx, e_slc, e_fld, e_comp, e_frz, t_and, t_or, t_not, t_val, q_none, q_some, es_nil, es_cons, o_none, o_some, i_val, i_rng, i_rng2, i_enum, i_zip, i_rev, a_nm, a_tp, sets_nil, sets_cons, wipe_nil, wipe_cons, tru_bl, tru_int, seq_lst, seq_tup, lst_lst, bi_len, bi_lenT, bi_abs, bi_int, bi_min2, bi_max2, bi_listL, bi_tupleL, bi_sum, W_ok, b_add, b_sub, b_mul, b_div, b_mod, b_pow, b_shl, b_shr, b_and, b_or, b_xor, c_eq, c_ne, c_lt, c_le, c_gt, c_ge, c_eqb, c_neb, c_non, c_isnon, c_isb, c_isnb, endK_ret, endK_next, rf_0, sw_0, rf_1, sw_1, rf_2, sw_2, rf_3, sw_3, rf_4, sw_4, rf_5, sw_5, rf_6, sw_6, rf_7, sw_7, tup_0, lst_0, tup_1, lst_1, tup_2, lst_2, tup_3, lst_3, tup_4, lst_4, tup_5, lst_5, tup_6, lst_6, tup_7, lst_7, endW_ret, endW_next, stepW_next, stepW_cnt, stepW_brk, stepW_ret, List.map_cons, List.map_nil, List.length_cons, List.length_nil, List.replicate, List.cons_append, List.nil_append, List.set_cons_zero, List.set_cons_succ, List.getElem?_cons_zero, List.getElem?_cons_succ, Option.some.injEq, D.int.injEq, D.bl.injEq, exEq, exists_eq_left', if_true, if_false, Bool.false_eq_true, decide_eq_true_eq, Option.isSome_some, true_and, reduceCtorEq, bit_p1, bit_p0, dec_false, dec_true, not_true_p, Int.toNat_natCast, Nat.reduceAdd, Nat.reduceSub]
      refine ⟨s64, shl1 (by omega), ?_⟩
      rw [pk]
      simp only [List.length_map, b_nil, b_cons, k_next, k_ret, k_brk, k_cnt, f_for, f_comp, ss_pass, ss_ret, ss_retN, ss_expr, ss_set, ss_tset, ss_sub, ss_sfld, ss_aug, ss_ite, ss_for, ss_whl, ss_brk, ss_cnt, e_slot, e_non, e_bl, e_int, e_str, e_bin, e_neg, e_inv, e_cmp, e_chain, e_and, e_or, e_not, e_ife, e_tup, e_lst, e_call, e_mk, e_bi, e_met, e_om, e_idx, e_slc, e_fld, e_comp, e_frz, t_and, t_or, t_not, t_val, q_none, q_some, es_nil, es_cons, o_none, o_some, i_val, i_rng, i_rng2, i_enum, i_zip, i_rev, a_nm, a_tp, sets_nil, sets_cons, wipe_nil, wipe_cons, tru_bl, tru_int, seq_lst, seq_tup, lst_lst, bi_len, bi_lenT, bi_abs, bi_int, bi_min2, bi_max2, bi_listL, bi_tupleL, bi_sum, W_ok, b_add, b_sub, b_mul, b_div, b_mod, b_pow, b_shl, b_shr, b_and, b_or, b_xor, c_eq, c_ne, c_lt, c_le, c_gt, c_ge, c_eqb, c_neb, c_non, c_isnon, c_isb, c_isnb, endK_ret, endK_next, rf_0, sw_0, rf_1, sw_1, rf_2, sw_2, rf_3, sw_3, rf_4, sw_4, rf_5, sw_5, rf_6, sw_6, rf_7, sw_7, tup_0, lst_0, tup_1, lst_1, tup_2, lst_2, tup_3, lst_3, tup_4, lst_4, tup_5, lst_5, tup_6, lst_6, tup_7, lst_7, endW_ret, endW_next, stepW_next, stepW_cnt, stepW_brk, stepW_ret, List.map_cons, List.map_nil, List.length_cons, List.length_nil, List.replicate, List.cons_append, List.nil_append, List.set_cons_zero, List.set_cons_succ, List.getElem?_cons_zero, List.getElem?_cons_succ, Option.some.injEq, D.int.injEq, D.bl.injEq, exEq, exists_eq_left', if_true, if_false, Bool.false_eq_true, decide_eq_true_eq, Option.isSome_some, true_and, reduceCtorEq, bit_p1, bit_p0, dec_false, dec_true, not_true_p, Int.toNat_natCast, Nat.reduceAdd, Nat.reduceSub]
      generalize hf : bitAnd (1 * 2 ^ (64 : Int).toNat - 1) (bitNot (plc (1 * 2 ^ N - 1) pl N)) = free
      have ff : ∀ x, Fre N pl (bitAnd x free) := by
        intro x k hk
        rw [ib_and, ← hf, ib_and, ib_not, plc_at hp hk, ib_ones (n := N), decide_eq_true hk]; simp
      -- four masks
      refine (mask_ok (n := 64) (q4.ext _) (by omega) (by omega) (by omega)).mono fun d S5 q5 => ?_
      obtain ⟨m1, rfl, q5⟩ := q5
      obtain ⟨S6, rfl, q6, l6⟩ := q4.unext q5
      simp only [List.length_map, b_nil, b_cons, k_next, k_ret, k_brk, k_cnt, f_for, f_comp, ss_pass, ss_ret, ss_retN, ss_expr, ss_set, ss_tset, ss_sub, ss_sfld, ss_aug, ss_ite, ss_for, ss_whl, ss_brk, ss_cnt, e_slot, e_non, e_bl, e_int, e_str, e_bin, e_neg, e_inv, e_cmp, e_chain, e_and, e_or, e_not, e_ife, e_tup, e_lst, e_call, e_mk, e_bi, e_met, e_om, e_idx, e_slc, e_fld, e_comp, e_frz, t_and, t_or, t_not, t_val, q_none, q_some, es_nil, es_cons, o_none, o_some, i_val, i_rng, i_rng2, i_enum, i_zip, i_rev, a_nm, a_tp, sets_nil, sets_cons, wipe_nil, wipe_cons, tru_bl, tru_int, seq_lst, seq_tup, lst_lst, bi_len, bi_lenT, bi_abs, bi_int, bi_min2, bi_max2, bi_listL, bi_tupleL, bi_sum, W_ok, b_add, b_sub, b_mul, b_div, b_mod, b_pow, b_shl, b_shr, b_and, b_or, b_xor, c_eq, c_ne, c_lt, c_le, c_gt, c_ge, c_eqb, c_neb, c_non, c_isnon, c_isb, c_isnb, endK_ret, endK_next, rf_0, sw_0, rf_1, sw_1, rf_2, sw_2, rf_3, sw_3, rf_4, sw_4, rf_5, sw_5, rf_6, sw_6, rf_7, sw_7, tup_0, lst_0, tup_1, lst_1, tup_2, lst_2, tup_3, lst_3, tup_4, lst_4, tup_5, lst_5, tup_6, lst_6, tup_7, lst_7, endW_ret, endW_next, stepW_next, stepW_cnt, stepW_brk, stepW_ret, List.map_cons, List.map_nil, List.length_cons, List.length_nil, List.replicate, List.cons_append, List.nil_append, List.set_cons_zero, List.set_cons_succ, List.getElem?_cons_zero, List.getElem?_cons_succ, Option.some.injEq, D.int.injEq, D.bl.injEq, exEq, exists_eq_left', if_true, if_false, Bool.false_eq_true, decide_eq_true_eq, Option.isSome_some, true_and, reduceCtorEq, bit_p1, bit_p0, dec_false, dec_true, not_true_p, Int.toNat_natCast, Nat.reduceAdd, Nat.reduceSub]
      refine (mask_ok (n := 64) (q6.ext _) (by omega) (by omega) (by omega)).mono fun d S7 q7 => ?_
      obtain ⟨m2, rfl, q7⟩ := q7
      obtain ⟨S8, rfl, q8, l8⟩ := q6.unext q7
      simp only [List.length_map, b_nil, b_cons, k_next, k_ret, k_brk, k_cnt, f_for, f_comp, ss_pass, ss_ret, ss_retN, ss_expr, ss_set, ss_tset, ss_sub, ss_sfld, ss_aug, ss_ite, ss_for, ss_whl, ss_brk, ss_cnt, e_slot, e_non, e_bl, e_int, e_str, e_bin, e_neg, e_inv, e_cmp, e_chain, e_and, e_or, e_not, e_ife, e_tup, e_lst, e_call, e_mk, e_bi, e_met, e_om, e_idx, e_slc, e_fld, e_comp, e_frz, t_and, t_or, t_not, t_val, q_none, q_some, es_nil, es_cons, o_none, o_some, i_val, i_rng, i_rng2, i_enum, i_zip, i_rev, a_nm, a_tp, sets_nil, sets_cons, wipe_nil, wipe_cons, tru_bl, tru_int, seq_lst, seq_tup, lst_lst, bi_len, bi_lenT, bi_abs, bi_int, bi_min2, bi_max2, bi_listL, bi_tupleL, bi_sum, W_ok, b_add, b_sub, b_mul, b_div, b_mod, b_pow, b_shl, b_shr, b_and, b_or, b_xor, c_eq, c_ne, c_lt, c_le, c_gt, c_ge, c_eqb, c_neb, c_non, c_isnon, c_isb, c_isnb, endK_ret, endK_next, rf_0, sw_0, rf_1, sw_1, rf_2, sw_2, rf_3, sw_3, rf_4, sw_4, rf_5, sw_5, rf_6, sw_6, rf_7, sw_7, tup_0, lst_0, tup_1, lst_1, tup_2, lst_2, tup_3, lst_3, tup_4, lst_4, tup_5, lst_5, tup_6, lst_6, tup_7, lst_7, endW_ret, endW_next, stepW_next, stepW_cnt, stepW_brk, stepW_ret, List.map_cons, List.map_nil, List.length_cons, List.length_nil, List.replicate, List.cons_append, List.nil_append, List.set_cons_zero, List.set_cons_succ, List.getElem?_cons_zero, List.getElem?_cons_succ, Option.some.injEq, D.int.injEq, D.bl.injEq, exEq, exists_eq_left', if_true, if_false, Bool.false_eq_true, decide_eq_true_eq, Option.isSome_some, true_and, reduceCtorEq, bit_p1, bit_p0, dec_false, dec_true, not_true_p, Int.toNat_natCast, Nat.reduceAdd, Nat.reduceSub]
      refine (mask_ok (n := 64) (q8.ext _) (by omega) (by omega) (by omega)).mono fun d S9 q9 => ?_
      obtain ⟨m3, rfl, q9⟩ := q9
      obtain ⟨S10, rfl, q10, l10⟩ := q8.unext q9
      simp only [List.length_map, b_nil, b_cons, k_next, k_ret, k_brk, k_cnt, f_for, f_comp, ss_pass, ss_ret, ss_retN, ss_expr, ss_set, ss_tset, ss_sub, ss_sfld, ss_aug, ss_ite, ss_for, ss_whl, ss_brk, ss_cnt, e_slot, e_non, e_bl, e_int, e_str, e_bin, e_neg, e_inv, e_cmp, e_chain, e_and, e_or, e_not, e_ife, e_tup, e_lst, e_call, e_mk, e_bi, e_met, e_om, e_idx, e_slc, e_fld, e_comp, e_frz, t_and, t_or, t_not, t_val, q_none, q_some, es_nil, es_cons, o_none, o_some, i_val, i_rng, i_rng2, i_enum, i_zip, i_rev, a_nm, a_tp, sets_nil, sets_cons, wipe_nil, wipe_cons, tru_bl, tru_int, seq_lst, seq_tup, lst_lst, bi_len, bi_lenT, bi_abs, bi_int, bi_min2, bi_max2, bi_listL, bi_tupleL, bi_sum, W_ok, b_add, b_sub, b_mul, b_div, b_mod, b_pow, b_shl, b_shr, b_and, b_or, b_xor, c_eq, c_ne, c_lt, c_le, c_gt, c_ge, c_eqb, c_neb, c_non, c_isnon, c_isb, c_isnb, endK_ret, endK_next, rf_0, sw_0, rf_1, sw_1, rf_2, sw_2, rf_3, sw_3, rf_4, sw_4, rf_5, sw_5, rf_6, sw_6, rf_7, sw_7, tup_0, lst_0, tup_1, lst_1, tup_2, lst_2, tup_3, lst_3, tup_4, lst_4, tup_5, lst_5, tup_6, lst_6, tup_7, lst_7, endW_ret, endW_next, stepW_next, stepW_cnt, stepW_brk, stepW_ret, List.map_cons, List.map_nil, List.length_cons, List.length_nil, List.replicate, List.cons_append, List.nil_append, List.set_cons_zero, List.set_cons_succ, List.getElem?_cons_zero, List.getElem?_cons_succ, Option.some.injEq, D.int.injEq, D.bl.injEq, exEq, exists_eq_left', if_true, if_false, Bool.false_eq_true, decide_eq_true_eq, Option.isSome_some, true_and, reduceCtorEq, bit_p1, bit_p0, dec_false, dec_true, not_true_p, Int.toNat_natCast, Nat.reduceAdd, Nat.reduceSub]
      refine (mask_ok (n := 64) (q10.ext _) (by omega) (by omega) (by omega)).mono fun d S11 q11 => ?_
      obtain ⟨m4, rfl, q11⟩ := q11
      obtain ⟨S12, rfl, q12, l12⟩ := q10.unext q11
      simp only [List.length_map, b_nil, b_cons, k_next, k_ret, k_brk, k_cnt, f_for, f_comp, ss_pass, ss_ret, ss_retN, ss_expr, ss_set, ss_tset, ss_sub, ss_sfld, ss_aug, ss_ite, ss_for, ss_whl, ss_brk, ss_cnt, e_slot, e_non, e_bl, e_int, e_str, e_bin, e_neg, e_inv, e_cmp, e_chain, e_and, e_or, e_not, e_ife, e_tup, e_lst, e_call, e_mk, e_bi, e_met, e_om, e_idx, e_slc, e_fld, e_comp, e_frz, t_and, t_or, t_not, t_val, q_none, q_some, es_nil, es_cons, o_none, o_some, i_val, i_rng, i_rng2, i_enum, i_zip, i_rev, a_nm, a_tp, sets_nil, sets_cons, wipe_nil, wipe_cons, tru_bl, tru_int, seq_lst, seq_tup, lst_lst, bi_len, bi_lenT, bi_abs, bi_int, bi_min2, bi_max2, bi_listL, bi_tupleL, bi_sum, W_ok, b_add, b_sub, b_mul, b_div, b_mod, b_pow, b_shl, b_shr, b_and, b_or, b_xor, c_eq, c_ne, c_lt, c_le, c_gt, c_ge, c_eqb, c_neb, c_non, c_isnon, c_isb, c_isnb, endK_ret, endK_next, rf_0, sw_0, rf_1, sw_1, rf_2, sw_2, rf_3, sw_3, rf_4, sw_4, rf_5, sw_5, rf_6, sw_6, rf_7, sw_7, tup_0, lst_0, tup_1, lst_1, tup_2, lst_2, tup_3, lst_3, tup_4, lst_4, tup_5, lst_5, tup_6, lst_6, tup_7, lst_7, endW_ret, endW_next, stepW_next, stepW_cnt, stepW_brk, stepW_ret, List.map_cons, List.map_nil, List.length_cons, List.length_nil, List.replicate, List.cons_append, List.nil_append, List.set_cons_zero, List.set_cons_succ, List.getElem?_cons_zero, List.getElem?_cons_succ, Option.some.injEq, D.int.injEq, D.bl.injEq, exEq, exists_eq_left', if_true, if_false, Bool.false_eq_true, decide_eq_true_eq, Option.isSome_some, true_and, reduceCtorEq, bit_p1, bit_p0, dec_false, dec_true, not_true_p, Int.toNat_natCast, Nat.reduceAdd, Nat.reduceSub]
      refine ⟨by decide, ?_⟩
      have l0 : S.length = S12.length := by rw [h.len, q12.len]
      rw [show S3.length = S12.length by omega]
      rw [end_nest (h.gr q12) l0 (pures_nl _) rfl]
      refine ⟨_, S12, ⟨pl, _, _, _, _, rfl, hp, ff m1, fun k hk => ?_, ff m3, ff m4⟩, rfl, rfl, q12.mono (by omega)⟩
      rw [ib_and, ff m2 k hk]; rfl
end
end K19
namespace K19
open PySem Py
open Builtin (bitAnd bitOr bitNot bitXor)
abbrev most : Nat := 63
abbrev lv : Nat := 12
/-- signs of all facts -/
theorem comp_sg {k t b n : Nat} {S0 S1 S : Sto} {f : D → Sto → R (Option D)} {Q : List D → Sto → Prop} (hn : n ≤ 64) (h : St t b S0 S)
    (step : ∀ j b' S', j < n → b' ≤ b + 2 * n → St t b' S0 S' → W (f (.int (j : Int)) S') fun o S'' => ∃ d, o = some d ∧ Sg d ∧ St t (b' + 2) S0 S'')
    (fin : ∀ (L : List D) S', L.length = n → (∀ d ∈ L, Sg d) → St t (b + 2 * n) S0 S' → Q L S') : W (compL S1 (.rg 0 n) f (fuelOf S (.rg 0 n)) 0 [] S) Q := by
  refine W_compR (a := 0) (n := n) (fun j acc S' => acc.length = j ∧ (∀ d ∈ acc, Sg d) ∧ St t (b + 2 * j) S0 S') rfl (Nat.le_trans hn (by decide)) ⟨rfl, (fun d h => by cases h), by simpa using h⟩ (fun j acc S' _ hj g => ?_) (fun acc S' g => ?_)
  · obtain ⟨hl, hs, g⟩ := g
    refine (step j _ S' (by omega) (by omega) g).mono fun o S2 q => ?_
    obtain ⟨d, rfl, hd, q⟩ := q
    refine ⟨by simp [hl], fun x hx => ?_, q.mono (by omega)⟩
    rw [List.mem_append] at hx
    rcases hx with hx | hx
    · exact hs x hx
    · have : x = d := by simpa using hx
      rw [this]; exact hd
  · obtain ⟨hl, hs, g⟩ := g
    exact fin acc S' (by omega) hs (by rw [Nat.zero_add] at g; exact g)
theorem Sg.pures {l : List D} (h : ∀ d ∈ l, Sg d) : D.pures l = true := by
  rw [pures_iff]
  intro d hd
  obtain ⟨x, y, _, _, rfl⟩ := h d hd
  rfl
theorem law_true (ns : List Int) (hn : ns.length ≤ most) : ∃ S', sem T P (lv + 1) 27 [.lst (ns.map .int)] [] = .ok (.bl true) S' := by
  suffices h : W (sem T P (lv + 1) 27 [.lst (il ns)] []) fun d _ => d = .bl true by
    obtain ⟨d, S', e, rfl⟩ := h.out
    exact ⟨S', e⟩
  refine W_run (cf := c27) rfl rfl rfl ?_
  simp only [c27, List.length_map, b_nil, b_cons, k_next, k_ret, k_brk, k_cnt, f_for, f_comp, ss_pass, ss_ret, ss_retN, ss_expr, ss_set, ss_tset, ss_sub, ss_sfld, ss_aug, ss_ite, ss_for, ss_whl, ss_brk, ss_cnt, e_slot, e_non, e_bl, e_int, e_str, e_bin, e_neg, e_inv, e_cmp, e_chain, e_and, e_or, e_not, e_ife, e_tup, e_lst, e_call, e_mk, e_bi, e_met, e_om, e_idx, e_slc, e_fld, e_comp, e_frz, t_and, t_or, t_not, t_val, q_none, q_some, es_nil, es_cons, o_none, o_some, i_val, i_rng, i_rng2, i_enum, i_zip, i_rev, a_nm, a_tp, sets_nil, sets_cons, wipe_nil, wipe_cons, tru_bl, tru_int, seq_lst, seq_tup, lst_lst, bi_len, bi_lenT, bi_abs, bi_int, bi_min2, bi_max2, bi_listL, bi_tupleL, bi_sum, W_ok, b_add, b_sub, b_mul, b_div, b_mod, b_pow, b_shl, b_shr, b_and, b_or, b_xor, c_eq, c_ne, c_lt, c_le, c_gt, c_ge, c_eqb, c_neb, c_non, c_isnon, c_isb, c_isnb, endK_ret, endK_next, rf_0, sw_0, rf_1, sw_1, rf_2, sw_2, rf_3, sw_3, rf_4, sw_4, rf_5, sw_5, rf_6, sw_6, rf_7, sw_7, tup_0, lst_0, tup_1, lst_1, tup_2, lst_2, tup_3, lst_3, tup_4, lst_4, tup_5, lst_5, tup_6, lst_6, tup_7, lst_7, endW_ret, endW_next, stepW_next, stepW_cnt, stepW_brk, stepW_ret, List.map_cons, List.map_nil, List.length_cons, List.length_nil, List.replicate, List.cons_append, List.nil_append, List.set_cons_zero, List.set_cons_succ, List.getElem?_cons_zero, List.getElem?_cons_succ, Option.some.injEq, D.int.injEq, D.bl.injEq, exEq, exists_eq_left', if_true, if_false, Bool.false_eq_true, decide_eq_true_eq, Option.isSome_some, true_and, reduceCtorEq, bit_p1, bit_p0, dec_false, dec_true, not_true_p, Int.toNat_natCast, Nat.reduceAdd, Nat.reduceSub]
  refine (tape_ok (show P 5 = some cTape from rfl) hn).mono fun d S1 q => ?_
  obtain ⟨o, rfl, rfl, ho⟩ := q
  try simp only [List.length_map, b_nil, b_cons, k_next, k_ret, k_brk, k_cnt, f_for, f_comp, ss_pass, ss_ret, ss_retN, ss_expr, ss_set, ss_tset, ss_sub, ss_sfld, ss_aug, ss_ite, ss_for, ss_whl, ss_brk, ss_cnt, e_slot, e_non, e_bl, e_int, e_str, e_bin, e_neg, e_inv, e_cmp, e_chain, e_and, e_or, e_not, e_ife, e_tup, e_lst, e_call, e_mk, e_bi, e_met, e_om, e_idx, e_slc, e_fld, e_comp, e_frz, t_and, t_or, t_not, t_val, q_none, q_some, es_nil, es_cons, o_none, o_some, i_val, i_rng, i_rng2, i_enum, i_zip, i_rev, a_nm, a_tp, sets_nil, sets_cons, wipe_nil, wipe_cons, tru_bl, tru_int, seq_lst, seq_tup, lst_lst, bi_len, bi_lenT, bi_abs, bi_int, bi_min2, bi_max2, bi_listL, bi_tupleL, bi_sum, W_ok, b_add, b_sub, b_mul, b_div, b_mod, b_pow, b_shl, b_shr, b_and, b_or, b_xor, c_eq, c_ne, c_lt, c_le, c_gt, c_ge, c_eqb, c_neb, c_non, c_isnon, c_isb, c_isnb, endK_ret, endK_next, rf_0, sw_0, rf_1, sw_1, rf_2, sw_2, rf_3, sw_3, rf_4, sw_4, rf_5, sw_5, rf_6, sw_6, rf_7, sw_7, tup_0, lst_0, tup_1, lst_1, tup_2, lst_2, tup_3, lst_3, tup_4, lst_4, tup_5, lst_5, tup_6, lst_6, tup_7, lst_7, endW_ret, endW_next, stepW_next, stepW_cnt, stepW_brk, stepW_ret, List.map_cons, List.map_nil, List.length_cons, List.length_nil, List.replicate, List.cons_append, List.nil_append, List.set_cons_zero, List.set_cons_succ, List.getElem?_cons_zero, List.getElem?_cons_succ, Option.some.injEq, D.int.injEq, D.bl.injEq, exEq, exists_eq_left', if_true, if_false, Bool.false_eq_true, decide_eq_true_eq, Option.isSome_some, true_and, reduceCtorEq, bit_p1, bit_p0, dec_false, dec_true, not_true_p, Int.toNat_natCast, Nat.reduceAdd, Nat.reduceSub]
  have st0 : St 0 0 [o] [o] := St.self (o := o) rfl ho
  refine (take_St P6 st0 (by omega) (by omega)).mono fun d S1 q => ?_
  obtain ⟨v, rfl, v0, v1, q⟩ := q
  obtain ⟨N, rfl⟩ : ∃ m : Nat, v = m := ⟨v.toNat, by omega⟩
  have hN : N ≤ 5 := by omega
  have hN6 : N ≤ 6 := by omega
  try simp only [List.length_map, b_nil, b_cons, k_next, k_ret, k_brk, k_cnt, f_for, f_comp, ss_pass, ss_ret, ss_retN, ss_expr, ss_set, ss_tset, ss_sub, ss_sfld, ss_aug, ss_ite, ss_for, ss_whl, ss_brk, ss_cnt, e_slot, e_non, e_bl, e_int, e_str, e_bin, e_neg, e_inv, e_cmp, e_chain, e_and, e_or, e_not, e_ife, e_tup, e_lst, e_call, e_mk, e_bi, e_met, e_om, e_idx, e_slc, e_fld, e_comp, e_frz, t_and, t_or, t_not, t_val, q_none, q_some, es_nil, es_cons, o_none, o_some, i_val, i_rng, i_rng2, i_enum, i_zip, i_rev, a_nm, a_tp, sets_nil, sets_cons, wipe_nil, wipe_cons, tru_bl, tru_int, seq_lst, seq_tup, lst_lst, bi_len, bi_lenT, bi_abs, bi_int, bi_min2, bi_max2, bi_listL, bi_tupleL, bi_sum, W_ok, b_add, b_sub, b_mul, b_div, b_mod, b_pow, b_shl, b_shr, b_and, b_or, b_xor, c_eq, c_ne, c_lt, c_le, c_gt, c_ge, c_eqb, c_neb, c_non, c_isnon, c_isb, c_isnb, endK_ret, endK_next, rf_0, sw_0, rf_1, sw_1, rf_2, sw_2, rf_3, sw_3, rf_4, sw_4, rf_5, sw_5, rf_6, sw_6, rf_7, sw_7, tup_0, lst_0, tup_1, lst_1, tup_2, lst_2, tup_3, lst_3, tup_4, lst_4, tup_5, lst_5, tup_6, lst_6, tup_7, lst_7, endW_ret, endW_next, stepW_next, stepW_cnt, stepW_brk, stepW_ret, List.map_cons, List.map_nil, List.length_cons, List.length_nil, List.replicate, List.cons_append, List.nil_append, List.set_cons_zero, List.set_cons_succ, List.getElem?_cons_zero, List.getElem?_cons_succ, Option.some.injEq, D.int.injEq, D.bl.injEq, exEq, exists_eq_left', if_true, if_false, Bool.false_eq_true, decide_eq_true_eq, Option.isSome_some, true_and, reduceCtorEq, bit_p1, bit_p0, dec_false, dec_true, not_true_p, Int.toNat_natCast, Nat.reduceAdd, Nat.reduceSub]
  refine (mask_ok (k := 10) q (by omega) (by omega) (by omega)).mono fun d S2 q => ?_
  obtain ⟨f, rfl, q⟩ := q
  try simp only [List.length_map, b_nil, b_cons, k_next, k_ret, k_brk, k_cnt, f_for, f_comp, ss_pass, ss_ret, ss_retN, ss_expr, ss_set, ss_tset, ss_sub, ss_sfld, ss_aug, ss_ite, ss_for, ss_whl, ss_brk, ss_cnt, e_slot, e_non, e_bl, e_int, e_str, e_bin, e_neg, e_inv, e_cmp, e_chain, e_and, e_or, e_not, e_ife, e_tup, e_lst, e_call, e_mk, e_bi, e_met, e_om, e_idx, e_slc, e_fld, e_comp, e_frz, t_and, t_or, t_not, t_val, q_none, q_some, es_nil, es_cons, o_none, o_some, i_val, i_rng, i_rng2, i_enum, i_zip, i_rev, a_nm, a_tp, sets_nil, sets_cons, wipe_nil, wipe_cons, tru_bl, tru_int, seq_lst, seq_tup, lst_lst, bi_len, bi_lenT, bi_abs, bi_int, bi_min2, bi_max2, bi_listL, bi_tupleL, bi_sum, W_ok, b_add, b_sub, b_mul, b_div, b_mod, b_pow, b_shl, b_shr, b_and, b_or, b_xor, c_eq, c_ne, c_lt, c_le, c_gt, c_ge, c_eqb, c_neb, c_non, c_isnon, c_isb, c_isnb, endK_ret, endK_next, rf_0, sw_0, rf_1, sw_1, rf_2, sw_2, rf_3, sw_3, rf_4, sw_4, rf_5, sw_5, rf_6, sw_6, rf_7, sw_7, tup_0, lst_0, tup_1, lst_1, tup_2, lst_2, tup_3, lst_3, tup_4, lst_4, tup_5, lst_5, tup_6, lst_6, tup_7, lst_7, endW_ret, endW_next, stepW_next, stepW_cnt, stepW_brk, stepW_ret, List.map_cons, List.map_nil, List.length_cons, List.length_nil, List.replicate, List.cons_append, List.nil_append, List.set_cons_zero, List.set_cons_succ, List.getElem?_cons_zero, List.getElem?_cons_succ, Option.some.injEq, D.int.injEq, D.bl.injEq, exEq, exists_eq_left', if_true, if_false, Bool.false_eq_true, decide_eq_true_eq, Option.isSome_some, true_and, reduceCtorEq, bit_p1, bit_p0, dec_false, dec_true, not_true_p, Int.toNat_natCast, Nat.reduceAdd, Nat.reduceSub]
  refine (mask_ok (k := 10) q (by omega) (by omega) (by omega)).mono fun d S3 q => ?_
  obtain ⟨g, rfl, q⟩ := q
  try simp only [List.length_map, b_nil, b_cons, k_next, k_ret, k_brk, k_cnt, f_for, f_comp, ss_pass, ss_ret, ss_retN, ss_expr, ss_set, ss_tset, ss_sub, ss_sfld, ss_aug, ss_ite, ss_for, ss_whl, ss_brk, ss_cnt, e_slot, e_non, e_bl, e_int, e_str, e_bin, e_neg, e_inv, e_cmp, e_chain, e_and, e_or, e_not, e_ife, e_tup, e_lst, e_call, e_mk, e_bi, e_met, e_om, e_idx, e_slc, e_fld, e_comp, e_frz, t_and, t_or, t_not, t_val, q_none, q_some, es_nil, es_cons, o_none, o_some, i_val, i_rng, i_rng2, i_enum, i_zip, i_rev, a_nm, a_tp, sets_nil, sets_cons, wipe_nil, wipe_cons, tru_bl, tru_int, seq_lst, seq_tup, lst_lst, bi_len, bi_lenT, bi_abs, bi_int, bi_min2, bi_max2, bi_listL, bi_tupleL, bi_sum, W_ok, b_add, b_sub, b_mul, b_div, b_mod, b_pow, b_shl, b_shr, b_and, b_or, b_xor, c_eq, c_ne, c_lt, c_le, c_gt, c_ge, c_eqb, c_neb, c_non, c_isnon, c_isb, c_isnb, endK_ret, endK_next, rf_0, sw_0, rf_1, sw_1, rf_2, sw_2, rf_3, sw_3, rf_4, sw_4, rf_5, sw_5, rf_6, sw_6, rf_7, sw_7, tup_0, lst_0, tup_1, lst_1, tup_2, lst_2, tup_3, lst_3, tup_4, lst_4, tup_5, lst_5, tup_6, lst_6, tup_7, lst_7, endW_ret, endW_next, stepW_next, stepW_cnt, stepW_brk, stepW_ret, List.map_cons, List.map_nil, List.length_cons, List.length_nil, List.replicate, List.cons_append, List.nil_append, List.set_cons_zero, List.set_cons_succ, List.getElem?_cons_zero, List.getElem?_cons_succ, Option.some.injEq, D.int.injEq, D.bl.injEq, exEq, exists_eq_left', if_true, if_false, Bool.false_eq_true, decide_eq_true_eq, Option.isSome_some, true_and, reduceCtorEq, bit_p1, bit_p0, dec_false, dec_true, not_true_p, Int.toNat_natCast, Nat.reduceAdd, Nat.reduceSub]
  refine ⟨by decide, ⟨by omega, by omega⟩, ?_⟩
  refine comp_sg (k := 0) (n := N) (by omega) q (fun j b' S' hj hb' g => ?_) (fun ds S4 hL hds q4 => ?_)
  · try simp only [List.length_map, b_nil, b_cons, k_next, k_ret, k_brk, k_cnt, f_for, f_comp, ss_pass, ss_ret, ss_retN, ss_expr, ss_set, ss_tset, ss_sub, ss_sfld, ss_aug, ss_ite, ss_for, ss_whl, ss_brk, ss_cnt, e_slot, e_non, e_bl, e_int, e_str, e_bin, e_neg, e_inv, e_cmp, e_chain, e_and, e_or, e_not, e_ife, e_tup, e_lst, e_call, e_mk, e_bi, e_met, e_om, e_idx, e_slc, e_fld, e_comp, e_frz, t_and, t_or, t_not, t_val, q_none, q_some, es_nil, es_cons, o_none, o_some, i_val, i_rng, i_rng2, i_enum, i_zip, i_rev, a_nm, a_tp, sets_nil, sets_cons, wipe_nil, wipe_cons, tru_bl, tru_int, seq_lst, seq_tup, lst_lst, bi_len, bi_lenT, bi_abs, bi_int, bi_min2, bi_max2, bi_listL, bi_tupleL, bi_sum, W_ok, b_add, b_sub, b_mul, b_div, b_mod, b_pow, b_shl, b_shr, b_and, b_or, b_xor, c_eq, c_ne, c_lt, c_le, c_gt, c_ge, c_eqb, c_neb, c_non, c_isnon, c_isb, c_isnb, endK_ret, endK_next, rf_0, sw_0, rf_1, sw_1, rf_2, sw_2, rf_3, sw_3, rf_4, sw_4, rf_5, sw_5, rf_6, sw_6, rf_7, sw_7, tup_0, lst_0, tup_1, lst_1, tup_2, lst_2, tup_3, lst_3, tup_4, lst_4, tup_5, lst_5, tup_6, lst_6, tup_7, lst_7, endW_ret, endW_next, stepW_next, stepW_cnt, stepW_brk, stepW_ret, List.map_cons, List.map_nil, List.length_cons, List.length_nil, List.replicate, List.cons_append, List.nil_append, List.set_cons_zero, List.set_cons_succ, List.getElem?_cons_zero, List.getElem?_cons_succ, Option.some.injEq, D.int.injEq, D.bl.injEq, exEq, exists_eq_left', if_true, if_false, Bool.false_eq_true, decide_eq_true_eq, Option.isSome_some, true_and, reduceCtorEq, bit_p1, bit_p0, dec_false, dec_true, not_true_p, Int.toNat_natCast, Nat.reduceAdd, Nat.reduceSub]
    refine (signs_ok (k := 10) g (by omega)).mono fun d S5 q => ?_
    exact q
  simp only [List.length_map, b_nil, b_cons, k_next, k_ret, k_brk, k_cnt, f_for, f_comp, ss_pass, ss_ret, ss_retN, ss_expr, ss_set, ss_tset, ss_sub, ss_sfld, ss_aug, ss_ite, ss_for, ss_whl, ss_brk, ss_cnt, e_slot, e_non, e_bl, e_int, e_str, e_bin, e_neg, e_inv, e_cmp, e_chain, e_and, e_or, e_not, e_ife, e_tup, e_lst, e_call, e_mk, e_bi, e_met, e_om, e_idx, e_slc, e_fld, e_comp, e_frz, t_and, t_or, t_not, t_val, q_none, q_some, es_nil, es_cons, o_none, o_some, i_val, i_rng, i_rng2, i_enum, i_zip, i_rev, a_nm, a_tp, sets_nil, sets_cons, wipe_nil, wipe_cons, tru_bl, tru_int, seq_lst, seq_tup, lst_lst, bi_len, bi_lenT, bi_abs, bi_int, bi_min2, bi_max2, bi_listL, bi_tupleL, bi_sum, W_ok, b_add, b_sub, b_mul, b_div, b_mod, b_pow, b_shl, b_shr, b_and, b_or, b_xor, c_eq, c_ne, c_lt, c_le, c_gt, c_ge, c_eqb, c_neb, c_non, c_isnon, c_isb, c_isnb, endK_ret, endK_next, rf_0, sw_0, rf_1, sw_1, rf_2, sw_2, rf_3, sw_3, rf_4, sw_4, rf_5, sw_5, rf_6, sw_6, rf_7, sw_7, tup_0, lst_0, tup_1, lst_1, tup_2, lst_2, tup_3, lst_3, tup_4, lst_4, tup_5, lst_5, tup_6, lst_6, tup_7, lst_7, endW_ret, endW_next, stepW_next, stepW_cnt, stepW_brk, stepW_ret, List.map_cons, List.map_nil, List.length_cons, List.length_nil, List.replicate, List.cons_append, List.nil_append, List.set_cons_zero, List.set_cons_succ, List.getElem?_cons_zero, List.getElem?_cons_succ, Option.some.injEq, D.int.injEq, D.bl.injEq, exEq, exists_eq_left', if_true, if_false, Bool.false_eq_true, decide_eq_true_eq, Option.isSome_some, true_and, reduceCtorEq, bit_p1, bit_p0, dec_false, dec_true, not_true_p, Int.toNat_natCast, Nat.reduceAdd, Nat.reduceSub, q.frz q4 (Sg.pures hds)]
  refine ⟨by decide, ⟨by omega, by omega⟩, ?_⟩
  have l4 : S4.length = 1 := q4.len
  rw [l4]
  -- what stands beside
  refine W_forR0 (fun i σ S' => ∃ (x : Option D) (bs : List D) (S5 : Sto), σ = [some (.lst (il ns)), some (.ref 0), some (.int (N : Int)), some (mk2 f g), some (.lst ds), some (.ref 1), x, none, none, none, none, none, none, none, none] ∧ S' = S5 ++ [.lst bs] ∧ S5.length = 1 ∧ bs.length = i ∧ (∀ d ∈ bs, Sg d) ∧ St 0 (200 + 3 * i) [o] S5)
    ⟨_, [], S4, rfl, rfl, l4, rfl, (fun d h => by cases h), q4.mono (by omega)⟩ (fun i σ S' hi h => ?_) (fun σ S' h => ?_)
  · obtain ⟨x, bs, S5, rfl, rfl, l5, hl, hs, q5⟩ := h
    have hm : i < ds.length := by omega
    obtain ⟨x1, y1, hx1, hy1, e1⟩ := hds _ (List.getElem_mem hm)
    have hg : ds[i]? = some (sg x1 y1) := by rw [List.getElem?_eq_getElem hm, e1]
    have e2 : ∀ S, idxD (.lst ds) (.int (i : Int)) S = .ok (sg x1 y1) S := fun S => idx_S seq_lst hg
    have e5 : lstOf (S5 ++ [.lst bs]) (.ref 1) = some bs := by rw [← l5]; exact lst_new
    simp only [List.length_map, b_nil, b_cons, k_next, k_ret, k_brk, k_cnt, f_for, f_comp, ss_pass, ss_ret, ss_retN, ss_expr, ss_set, ss_tset, ss_sub, ss_sfld, ss_aug, ss_ite, ss_for, ss_whl, ss_brk, ss_cnt, e_slot, e_non, e_bl, e_int, e_str, e_bin, e_neg, e_inv, e_cmp, e_chain, e_and, e_or, e_not, e_ife, e_tup, e_lst, e_call, e_mk, e_bi, e_met, e_om, e_idx, e_slc, e_fld, e_comp, e_frz, t_and, t_or, t_not, t_val, q_none, q_some, es_nil, es_cons, o_none, o_some, i_val, i_rng, i_rng2, i_enum, i_zip, i_rev, a_nm, a_tp, sets_nil, sets_cons, wipe_nil, wipe_cons, tru_bl, tru_int, seq_lst, seq_tup, lst_lst, bi_len, bi_lenT, bi_abs, bi_int, bi_min2, bi_max2, bi_listL, bi_tupleL, bi_sum, W_ok, b_add, b_sub, b_mul, b_div, b_mod, b_pow, b_shl, b_shr, b_and, b_or, b_xor, c_eq, c_ne, c_lt, c_le, c_gt, c_ge, c_eqb, c_neb, c_non, c_isnon, c_isb, c_isnb, endK_ret, endK_next, rf_0, sw_0, rf_1, sw_1, rf_2, sw_2, rf_3, sw_3, rf_4, sw_4, rf_5, sw_5, rf_6, sw_6, rf_7, sw_7, tup_0, lst_0, tup_1, lst_1, tup_2, lst_2, tup_3, lst_3, tup_4, lst_4, tup_5, lst_5, tup_6, lst_6, tup_7, lst_7, endW_ret, endW_next, stepW_next, stepW_cnt, stepW_brk, stepW_ret, List.map_cons, List.map_nil, List.length_cons, List.length_nil, List.replicate, List.cons_append, List.nil_append, List.set_cons_zero, List.set_cons_succ, List.getElem?_cons_zero, List.getElem?_cons_succ, Option.some.injEq, D.int.injEq, D.bl.injEq, exEq, exists_eq_left', if_true, if_false, Bool.false_eq_true, decide_eq_true_eq, Option.isSome_some, true_and, reduceCtorEq, bit_p1, bit_p0, dec_false, dec_true, not_true_p, Int.toNat_natCast, Nat.reduceAdd, Nat.reduceSub, e5, e2]
    refine ⟨by omega, by omega, ?_⟩
    refine (beside_ok (k := 9) (q5.ext _) (by omega) hx1 hy1).mono fun d S6 q6 => ?_
    obtain ⟨hd, q6⟩ := q6
    obtain ⟨S7, rfl, q7, l7⟩ := q5.unext q6
    have e6 : meD .append (.ref 1) [d] (S7 ++ [.lst bs]) = .ok .non (S7 ++ [.lst (bs ++ [d])]) := by
      rw [show (1 : Nat) = S7.length by omega]
      exact app_new (Nat.lt_of_le_of_lt (show bs.length ≤ 12 by omega) (by decide))
    rw [e6, W_ok]
    refine ⟨_, bs ++ [d], S7, rfl, rfl, by omega, by simp [hl], fun x hx => ?_, q7.mono (by omega)⟩
    rw [List.mem_append] at hx
    rcases hx with hx | hx
    · exact hs x hx
    · have : x = d := by simpa using hx
      rw [this]; exact hd
  obtain ⟨x, bs, S5, rfl, rfl, l5, hl, hs, q5⟩ := h
  try simp only [List.length_map, b_nil, b_cons, k_next, k_ret, k_brk, k_cnt, f_for, f_comp, ss_pass, ss_ret, ss_retN, ss_expr, ss_set, ss_tset, ss_sub, ss_sfld, ss_aug, ss_ite, ss_for, ss_whl, ss_brk, ss_cnt, e_slot, e_non, e_bl, e_int, e_str, e_bin, e_neg, e_inv, e_cmp, e_chain, e_and, e_or, e_not, e_ife, e_tup, e_lst, e_call, e_mk, e_bi, e_met, e_om, e_idx, e_slc, e_fld, e_comp, e_frz, t_and, t_or, t_not, t_val, q_none, q_some, es_nil, es_cons, o_none, o_some, i_val, i_rng, i_rng2, i_enum, i_zip, i_rev, a_nm, a_tp, sets_nil, sets_cons, wipe_nil, wipe_cons, tru_bl, tru_int, seq_lst, seq_tup, lst_lst, bi_len, bi_lenT, bi_abs, bi_int, bi_min2, bi_max2, bi_listL, bi_tupleL, bi_sum, W_ok, b_add, b_sub, b_mul, b_div, b_mod, b_pow, b_shl, b_shr, b_and, b_or, b_xor, c_eq, c_ne, c_lt, c_le, c_gt, c_ge, c_eqb, c_neb, c_non, c_isnon, c_isb, c_isnb, endK_ret, endK_next, rf_0, sw_0, rf_1, sw_1, rf_2, sw_2, rf_3, sw_3, rf_4, sw_4, rf_5, sw_5, rf_6, sw_6, rf_7, sw_7, tup_0, lst_0, tup_1, lst_1, tup_2, lst_2, tup_3, lst_3, tup_4, lst_4, tup_5, lst_5, tup_6, lst_6, tup_7, lst_7, endW_ret, endW_next, stepW_next, stepW_cnt, stepW_brk, stepW_ret, List.map_cons, List.map_nil, List.length_cons, List.length_nil, List.replicate, List.cons_append, List.nil_append, List.set_cons_zero, List.set_cons_succ, List.getElem?_cons_zero, List.getElem?_cons_succ, Option.some.injEq, D.int.injEq, D.bl.injEq, exEq, exists_eq_left', if_true, if_false, Bool.false_eq_true, decide_eq_true_eq, Option.isSome_some, true_and, reduceCtorEq, bit_p1, bit_p0, dec_false, dec_true, not_true_p, Int.toNat_natCast, Nat.reduceAdd, Nat.reduceSub]
  refine (room_ok (k := 9) (q5.ext _) (by omega) hN).mono fun d S6 q6 => ?_
  obtain ⟨rm, S6, hrm, rfl, rfl, q6⟩ := q6
  rw [(q5.ext _).frz q6 hrm.pures]
  obtain ⟨S7, rfl, q7, l7⟩ := q5.unext q6
  try simp only [List.length_map, b_nil, b_cons, k_next, k_ret, k_brk, k_cnt, f_for, f_comp, ss_pass, ss_ret, ss_retN, ss_expr, ss_set, ss_tset, ss_sub, ss_sfld, ss_aug, ss_ite, ss_for, ss_whl, ss_brk, ss_cnt, e_slot, e_non, e_bl, e_int, e_str, e_bin, e_neg, e_inv, e_cmp, e_chain, e_and, e_or, e_not, e_ife, e_tup, e_lst, e_call, e_mk, e_bi, e_met, e_om, e_idx, e_slc, e_fld, e_comp, e_frz, t_and, t_or, t_not, t_val, q_none, q_some, es_nil, es_cons, o_none, o_some, i_val, i_rng, i_rng2, i_enum, i_zip, i_rev, a_nm, a_tp, sets_nil, sets_cons, wipe_nil, wipe_cons, tru_bl, tru_int, seq_lst, seq_tup, lst_lst, bi_len, bi_lenT, bi_abs, bi_int, bi_min2, bi_max2, bi_listL, bi_tupleL, bi_sum, W_ok, b_add, b_sub, b_mul, b_div, b_mod, b_pow, b_shl, b_shr, b_and, b_or, b_xor, c_eq, c_ne, c_lt, c_le, c_gt, c_ge, c_eqb, c_neb, c_non, c_isnon, c_isb, c_isnb, endK_ret, endK_next, rf_0, sw_0, rf_1, sw_1, rf_2, sw_2, rf_3, sw_3, rf_4, sw_4, rf_5, sw_5, rf_6, sw_6, rf_7, sw_7, tup_0, lst_0, tup_1, lst_1, tup_2, lst_2, tup_3, lst_3, tup_4, lst_4, tup_5, lst_5, tup_6, lst_6, tup_7, lst_7, endW_ret, endW_next, stepW_next, stepW_cnt, stepW_brk, stepW_ret, List.map_cons, List.map_nil, List.length_cons, List.length_nil, List.replicate, List.cons_append, List.nil_append, List.set_cons_zero, List.set_cons_succ, List.getElem?_cons_zero, List.getElem?_cons_succ, Option.some.injEq, D.int.injEq, D.bl.injEq, exEq, exists_eq_left', if_true, if_false, Bool.false_eq_true, decide_eq_true_eq, Option.isSome_some, true_and, reduceCtorEq, bit_p1, bit_p0, dec_false, dec_true, not_true_p, Int.toNat_natCast, Nat.reduceAdd, Nat.reduceSub]
  refine (cost_ok (k := 10) (q7.ext _) (by omega)).mono fun d S8 q8 => ?_
  obtain ⟨c, rfl, q8⟩ := q8
  obtain ⟨S9, rfl, q9, l9⟩ := q7.unext q8
  try simp only [List.length_map, b_nil, b_cons, k_next, k_ret, k_brk, k_cnt, f_for, f_comp, ss_pass, ss_ret, ss_retN, ss_expr, ss_set, ss_tset, ss_sub, ss_sfld, ss_aug, ss_ite, ss_for, ss_whl, ss_brk, ss_cnt, e_slot, e_non, e_bl, e_int, e_str, e_bin, e_neg, e_inv, e_cmp, e_chain, e_and, e_or, e_not, e_ife, e_tup, e_lst, e_call, e_mk, e_bi, e_met, e_om, e_idx, e_slc, e_fld, e_comp, e_frz, t_and, t_or, t_not, t_val, q_none, q_some, es_nil, es_cons, o_none, o_some, i_val, i_rng, i_rng2, i_enum, i_zip, i_rev, a_nm, a_tp, sets_nil, sets_cons, wipe_nil, wipe_cons, tru_bl, tru_int, seq_lst, seq_tup, lst_lst, bi_len, bi_lenT, bi_abs, bi_int, bi_min2, bi_max2, bi_listL, bi_tupleL, bi_sum, W_ok, b_add, b_sub, b_mul, b_div, b_mod, b_pow, b_shl, b_shr, b_and, b_or, b_xor, c_eq, c_ne, c_lt, c_le, c_gt, c_ge, c_eqb, c_neb, c_non, c_isnon, c_isb, c_isnb, endK_ret, endK_next, rf_0, sw_0, rf_1, sw_1, rf_2, sw_2, rf_3, sw_3, rf_4, sw_4, rf_5, sw_5, rf_6, sw_6, rf_7, sw_7, tup_0, lst_0, tup_1, lst_1, tup_2, lst_2, tup_3, lst_3, tup_4, lst_4, tup_5, lst_5, tup_6, lst_6, tup_7, lst_7, endW_ret, endW_next, stepW_next, stepW_cnt, stepW_brk, stepW_ret, List.map_cons, List.map_nil, List.length_cons, List.length_nil, List.replicate, List.cons_append, List.nil_append, List.set_cons_zero, List.set_cons_succ, List.getElem?_cons_zero, List.getElem?_cons_succ, Option.some.injEq, D.int.injEq, D.bl.injEq, exEq, exists_eq_left', if_true, if_false, Bool.false_eq_true, decide_eq_true_eq, Option.isSome_some, true_and, reduceCtorEq, bit_p1, bit_p0, dec_false, dec_true, not_true_p, Int.toNat_natCast, Nat.reduceAdd, Nat.reduceSub]
  obtain ⟨n1, b1, a1, d1, F1, e1⟩ := case_ok (k := 11) (N := N) (S := S9 ++ [.lst bs]) (c := c) (d := .lst ds) (ds := ds) (fun X => seq_lst) hL hN6 hds
  rw [show sem T P lv 17 [.int c, .lst ds] (S9 ++ [.lst bs]) = _ from e1, W_ok]
  try simp only [List.length_map, b_nil, b_cons, k_next, k_ret, k_brk, k_cnt, f_for, f_comp, ss_pass, ss_ret, ss_retN, ss_expr, ss_set, ss_tset, ss_sub, ss_sfld, ss_aug, ss_ite, ss_for, ss_whl, ss_brk, ss_cnt, e_slot, e_non, e_bl, e_int, e_str, e_bin, e_neg, e_inv, e_cmp, e_chain, e_and, e_or, e_not, e_ife, e_tup, e_lst, e_call, e_mk, e_bi, e_met, e_om, e_idx, e_slc, e_fld, e_comp, e_frz, t_and, t_or, t_not, t_val, q_none, q_some, es_nil, es_cons, o_none, o_some, i_val, i_rng, i_rng2, i_enum, i_zip, i_rev, a_nm, a_tp, sets_nil, sets_cons, wipe_nil, wipe_cons, tru_bl, tru_int, seq_lst, seq_tup, lst_lst, bi_len, bi_lenT, bi_abs, bi_int, bi_min2, bi_max2, bi_listL, bi_tupleL, bi_sum, W_ok, b_add, b_sub, b_mul, b_div, b_mod, b_pow, b_shl, b_shr, b_and, b_or, b_xor, c_eq, c_ne, c_lt, c_le, c_gt, c_ge, c_eqb, c_neb, c_non, c_isnon, c_isb, c_isnb, endK_ret, endK_next, rf_0, sw_0, rf_1, sw_1, rf_2, sw_2, rf_3, sw_3, rf_4, sw_4, rf_5, sw_5, rf_6, sw_6, rf_7, sw_7, tup_0, lst_0, tup_1, lst_1, tup_2, lst_2, tup_3, lst_3, tup_4, lst_4, tup_5, lst_5, tup_6, lst_6, tup_7, lst_7, endW_ret, endW_next, stepW_next, stepW_cnt, stepW_brk, stepW_ret, List.map_cons, List.map_nil, List.length_cons, List.length_nil, List.replicate, List.cons_append, List.nil_append, List.set_cons_zero, List.set_cons_succ, List.getElem?_cons_zero, List.getElem?_cons_succ, Option.some.injEq, D.int.injEq, D.bl.injEq, exEq, exists_eq_left', if_true, if_false, Bool.false_eq_true, decide_eq_true_eq, Option.isSome_some, true_and, reduceCtorEq, bit_p1, bit_p0, dec_false, dec_true, not_true_p, Int.toNat_natCast, Nat.reduceAdd, Nat.reduceSub]
  have p3 : ∀ (a b c : Int), D.pures [.int a, .int b, .int c] = true := fun _ _ _ => rfl
  refine ⟨by decide, by decide, ?_⟩
  simp only [frz_lst (p3 _ _ _), List.length_map, b_nil, b_cons, k_next, k_ret, k_brk, k_cnt, f_for, f_comp, ss_pass, ss_ret, ss_retN, ss_expr, ss_set, ss_tset, ss_sub, ss_sfld, ss_aug, ss_ite, ss_for, ss_whl, ss_brk, ss_cnt, e_slot, e_non, e_bl, e_int, e_str, e_bin, e_neg, e_inv, e_cmp, e_chain, e_and, e_or, e_not, e_ife, e_tup, e_lst, e_call, e_mk, e_bi, e_met, e_om, e_idx, e_slc, e_fld, e_comp, e_frz, t_and, t_or, t_not, t_val, q_none, q_some, es_nil, es_cons, o_none, o_some, i_val, i_rng, i_rng2, i_enum, i_zip, i_rev, a_nm, a_tp, sets_nil, sets_cons, wipe_nil, wipe_cons, tru_bl, tru_int, seq_lst, seq_tup, lst_lst, bi_len, bi_lenT, bi_abs, bi_int, bi_min2, bi_max2, bi_listL, bi_tupleL, bi_sum, W_ok, b_add, b_sub, b_mul, b_div, b_mod, b_pow, b_shl, b_shr, b_and, b_or, b_xor, c_eq, c_ne, c_lt, c_le, c_gt, c_ge, c_eqb, c_neb, c_non, c_isnon, c_isb, c_isnb, endK_ret, endK_next, rf_0, sw_0, rf_1, sw_1, rf_2, sw_2, rf_3, sw_3, rf_4, sw_4, rf_5, sw_5, rf_6, sw_6, rf_7, sw_7, tup_0, lst_0, tup_1, lst_1, tup_2, lst_2, tup_3, lst_3, tup_4, lst_4, tup_5, lst_5, tup_6, lst_6, tup_7, lst_7, endW_ret, endW_next, stepW_next, stepW_cnt, stepW_brk, stepW_ret, List.map_cons, List.map_nil, List.length_cons, List.length_nil, List.replicate, List.cons_append, List.nil_append, List.set_cons_zero, List.set_cons_succ, List.getElem?_cons_zero, List.getElem?_cons_succ, Option.some.injEq, D.int.injEq, D.bl.injEq, exEq, exists_eq_left', if_true, if_false, Bool.false_eq_true, decide_eq_true_eq, Option.isSome_some, true_and, reduceCtorEq, bit_p1, bit_p0, dec_false, dec_true, not_true_p, Int.toNat_natCast, Nat.reduceAdd, Nat.reduceSub]
  refine (take_St P6 (q9.ext _) (by omega) (by omega)).mono fun d S10 q10 => ?_
  obtain ⟨u, rfl, u0, u1, q10⟩ := q10
  obtain ⟨S11, rfl, q11, l11⟩ := q9.unext q10
  have pick : ∃ c', ∀ S, idxD (.lst [.int c, .int (if c - 1 > 0 then c - 1 else 0), .int (c.fdiv 2)]) (.int u) S = .ok (.int c') S := by
    have : u = 0 ∨ u = 1 ∨ u = 2 := by omega
    rcases this with rfl | rfl | rfl
    · exact ⟨_, fun S => lst_0⟩
    · exact ⟨_, fun S => lst_1⟩
    · exact ⟨_, fun S => lst_2⟩
  obtain ⟨c', e2⟩ := pick
  rw [e2, W_ok]
  have len1 : S11.length = 1 := by omega
  obtain ⟨n2, b2, a2, d2, F2, e3⟩ := case_ok (k := 11) (N := N) (S := S11 ++ [.lst bs]) (c := c') (d := .ref 1) (ds := bs) (fun X => by
    have : seqOf (S11 ++ .lst bs :: X) (.ref S11.length) = some bs := seq_new
    rw [len1] at this
    simpa using this) (by simpa using hl) hN6 hs
  try simp only [List.length_map, b_nil, b_cons, k_next, k_ret, k_brk, k_cnt, f_for, f_comp, ss_pass, ss_ret, ss_retN, ss_expr, ss_set, ss_tset, ss_sub, ss_sfld, ss_aug, ss_ite, ss_for, ss_whl, ss_brk, ss_cnt, e_slot, e_non, e_bl, e_int, e_str, e_bin, e_neg, e_inv, e_cmp, e_chain, e_and, e_or, e_not, e_ife, e_tup, e_lst, e_call, e_mk, e_bi, e_met, e_om, e_idx, e_slc, e_fld, e_comp, e_frz, t_and, t_or, t_not, t_val, q_none, q_some, es_nil, es_cons, o_none, o_some, i_val, i_rng, i_rng2, i_enum, i_zip, i_rev, a_nm, a_tp, sets_nil, sets_cons, wipe_nil, wipe_cons, tru_bl, tru_int, seq_lst, seq_tup, lst_lst, bi_len, bi_lenT, bi_abs, bi_int, bi_min2, bi_max2, bi_listL, bi_tupleL, bi_sum, W_ok, b_add, b_sub, b_mul, b_div, b_mod, b_pow, b_shl, b_shr, b_and, b_or, b_xor, c_eq, c_ne, c_lt, c_le, c_gt, c_ge, c_eqb, c_neb, c_non, c_isnon, c_isb, c_isnb, endK_ret, endK_next, rf_0, sw_0, rf_1, sw_1, rf_2, sw_2, rf_3, sw_3, rf_4, sw_4, rf_5, sw_5, rf_6, sw_6, rf_7, sw_7, tup_0, lst_0, tup_1, lst_1, tup_2, lst_2, tup_3, lst_3, tup_4, lst_4, tup_5, lst_5, tup_6, lst_6, tup_7, lst_7, endW_ret, endW_next, stepW_next, stepW_cnt, stepW_brk, stepW_ret, List.map_cons, List.map_nil, List.length_cons, List.length_nil, List.replicate, List.cons_append, List.nil_append, List.set_cons_zero, List.set_cons_succ, List.getElem?_cons_zero, List.getElem?_cons_succ, Option.some.injEq, D.int.injEq, D.bl.injEq, exEq, exists_eq_left', if_true, if_false, Bool.false_eq_true, decide_eq_true_eq, Option.isSome_some, true_and, reduceCtorEq, bit_p1, bit_p0, dec_false, dec_true, not_true_p, Int.toNat_natCast, Nat.reduceAdd, Nat.reduceSub]
  rw [show sem T P lv 17 [.int c', .ref 1] (S11 ++ [.lst bs]) = _ from e3, W_ok]
  obtain ⟨pl, r1, r2, r3, r4, rfl, hp, f1, f2, f3, f4⟩ := hrm
  have pair : ∀ (f g c n b a d c' n' b' a' d' : Int) (S : Sto), Fc N n b a d → Fc N n' b' a' d' → sem T P lv 23 [.int (N : Int), .lst [.lst (nl pl), .int r1, .int r2, .int r3, .int r4], mk2 f g, own5 c' n' b' a' d', own5 c n b a d] S = .ok (.bl true) S := fun _ _ _ _ _ _ _ _ _ _ _ _ S h h' => pair_ok (k := 9) hN6 hp f1 f2 f3 f4 h h'
  have twice : ∀ (f g c n b a d : Int) (S : Sto), Fc N n b a d → sem T P lv 26 [.lst [.lst (nl pl), .int r1, .int r2, .int r3, .int r4], mk2 f g, own5 c n b a d] S = .ok (.bl true) S := fun _ _ _ _ _ _ _ S h => twice_ok (k := 9) hN6 hp f1 f2 f3 f4 h
  have flips : ∀ (f g c n b a d c' n' b' a' d' : Int) (S : Sto), Fc N n b a d → Fc N n' b' a' d' → sem T P lv 25 [.int (N : Int), .lst [.lst (nl pl), .int r1, .int r2, .int r3, .int r4], mk2 f g, own5 c' n' b' a' d', own5 c n b a d] S = .ok (.bl true) S := fun _ _ _ _ _ _ _ _ _ _ _ _ S h h' => flips_ok (k := 8) hN6 hp f1 f2 f3 f4 h h'
  have p2 : D.pures [.int 0, .int 1] = true := rfl
  simp only [List.length_map, b_nil, b_cons, k_next, k_ret, k_brk, k_cnt, f_for, f_comp, ss_pass, ss_ret, ss_retN, ss_expr, ss_set, ss_tset, ss_sub, ss_sfld, ss_aug, ss_ite, ss_for, ss_whl, ss_brk, ss_cnt, e_slot, e_non, e_bl, e_int, e_str, e_bin, e_neg, e_inv, e_cmp, e_chain, e_and, e_or, e_not, e_ife, e_tup, e_lst, e_call, e_mk, e_bi, e_met, e_om, e_idx, e_slc, e_fld, e_comp, e_frz, t_and, t_or, t_not, t_val, q_none, q_some, es_nil, es_cons, o_none, o_some, i_val, i_rng, i_rng2, i_enum, i_zip, i_rev, a_nm, a_tp, sets_nil, sets_cons, wipe_nil, wipe_cons, tru_bl, tru_int, seq_lst, seq_tup, lst_lst, bi_len, bi_lenT, bi_abs, bi_int, bi_min2, bi_max2, bi_listL, bi_tupleL, bi_sum, W_ok, b_add, b_sub, b_mul, b_div, b_mod, b_pow, b_shl, b_shr, b_and, b_or, b_xor, c_eq, c_ne, c_lt, c_le, c_gt, c_ge, c_eqb, c_neb, c_non, c_isnon, c_isb, c_isnb, endK_ret, endK_next, rf_0, sw_0, rf_1, sw_1, rf_2, sw_2, rf_3, sw_3, rf_4, sw_4, rf_5, sw_5, rf_6, sw_6, rf_7, sw_7, tup_0, lst_0, tup_1, lst_1, tup_2, lst_2, tup_3, lst_3, tup_4, lst_4, tup_5, lst_5, tup_6, lst_6, tup_7, lst_7, endW_ret, endW_next, stepW_next, stepW_cnt, stepW_brk, stepW_ret, List.map_cons, List.map_nil, List.length_cons, List.length_nil, List.replicate, List.cons_append, List.nil_append, List.set_cons_zero, List.set_cons_succ, List.getElem?_cons_zero, List.getElem?_cons_succ, Option.some.injEq, D.int.injEq, D.bl.injEq, exEq, exists_eq_left', if_true, if_false, Bool.false_eq_true, decide_eq_true_eq, Option.isSome_some, true_and, reduceCtorEq, bit_p1, bit_p0, dec_false, dec_true, not_true_p, Int.toNat_natCast, Nat.reduceAdd, Nat.reduceSub, frz_lst p2]
  refine ⟨by decide, ?_⟩
  have q12 := q11.ext [O.lst bs]
  generalize S11 ++ [O.lst bs] = S12 at *
  refine W_forS (xs := [.int 0, .int 1]) (fun i σ S' => ∃ x11 x12, σ = [some (.lst (il ns)), some (.ref 0), some (.int (N : Int)), some (mk2 f g), some (.lst ds), some (.ref 1), x, some (roomD pl r1 r2 r3 r4), some (.int c), some (own5 c n1 b1 a1 d1), some (own5 c' n2 b2 a2 d2), x11, x12, none, none] ∧ S' = S12) (fun _ _ _ _ => seq_lst) ⟨_, _, rfl, rfl⟩ (fun i d σ S' hx hi h => ?_) (fun σ S' h => ?_)
  · obtain ⟨x11, x12, rfl, rfl⟩ := h
    have hd : ∃ m : Int, d = .int m := by
      match i, hi with
      | 0, _ => exact ⟨0, by simpa using hx.symm⟩
      | 1, _ => exact ⟨1, by simpa using hx.symm⟩
    obtain ⟨m, rfl⟩ := hd
    simp only [List.length_map, b_nil, b_cons, k_next, k_ret, k_brk, k_cnt, f_for, f_comp, ss_pass, ss_ret, ss_retN, ss_expr, ss_set, ss_tset, ss_sub, ss_sfld, ss_aug, ss_ite, ss_for, ss_whl, ss_brk, ss_cnt, e_slot, e_non, e_bl, e_int, e_str, e_bin, e_neg, e_inv, e_cmp, e_chain, e_and, e_or, e_not, e_ife, e_tup, e_lst, e_call, e_mk, e_bi, e_met, e_om, e_idx, e_slc, e_fld, e_comp, e_frz, t_and, t_or, t_not, t_val, q_none, q_some, es_nil, es_cons, o_none, o_some, i_val, i_rng, i_rng2, i_enum, i_zip, i_rev, a_nm, a_tp, sets_nil, sets_cons, wipe_nil, wipe_cons, tru_bl, tru_int, seq_lst, seq_tup, lst_lst, bi_len, bi_lenT, bi_abs, bi_int, bi_min2, bi_max2, bi_listL, bi_tupleL, bi_sum, W_ok, b_add, b_sub, b_mul, b_div, b_mod, b_pow, b_shl, b_shr, b_and, b_or, b_xor, c_eq, c_ne, c_lt, c_le, c_gt, c_ge, c_eqb, c_neb, c_non, c_isnon, c_isb, c_isnb, endK_ret, endK_next, rf_0, sw_0, rf_1, sw_1, rf_2, sw_2, rf_3, sw_3, rf_4, sw_4, rf_5, sw_5, rf_6, sw_6, rf_7, sw_7, tup_0, lst_0, tup_1, lst_1, tup_2, lst_2, tup_3, lst_3, tup_4, lst_4, tup_5, lst_5, tup_6, lst_6, tup_7, lst_7, endW_ret, endW_next, stepW_next, stepW_cnt, stepW_brk, stepW_ret, List.map_cons, List.map_nil, List.length_cons, List.length_nil, List.replicate, List.cons_append, List.nil_append, List.set_cons_zero, List.set_cons_succ, List.getElem?_cons_zero, List.getElem?_cons_succ, Option.some.injEq, D.int.injEq, D.bl.injEq, exEq, exists_eq_left', if_true, if_false, Bool.false_eq_true, decide_eq_true_eq, Option.isSome_some, true_and, reduceCtorEq, bit_p1, bit_p0, dec_false, dec_true, not_true_p, Int.toNat_natCast, Nat.reduceAdd, Nat.reduceSub, pair _ _ _ _ _ _ _ _ _ _ _ _ _ F1 F2, Bool.not_true]
    exact ⟨by decide, _, _, rfl, by trivial⟩
  obtain ⟨x11, x12, rfl, rfl⟩ := h
  simp only [List.length_map, b_nil, b_cons, k_next, k_ret, k_brk, k_cnt, f_for, f_comp, ss_pass, ss_ret, ss_retN, ss_expr, ss_set, ss_tset, ss_sub, ss_sfld, ss_aug, ss_ite, ss_for, ss_whl, ss_brk, ss_cnt, e_slot, e_non, e_bl, e_int, e_str, e_bin, e_neg, e_inv, e_cmp, e_chain, e_and, e_or, e_not, e_ife, e_tup, e_lst, e_call, e_mk, e_bi, e_met, e_om, e_idx, e_slc, e_fld, e_comp, e_frz, t_and, t_or, t_not, t_val, q_none, q_some, es_nil, es_cons, o_none, o_some, i_val, i_rng, i_rng2, i_enum, i_zip, i_rev, a_nm, a_tp, sets_nil, sets_cons, wipe_nil, wipe_cons, tru_bl, tru_int, seq_lst, seq_tup, lst_lst, bi_len, bi_lenT, bi_abs, bi_int, bi_min2, bi_max2, bi_listL, bi_tupleL, bi_sum, W_ok, b_add, b_sub, b_mul, b_div, b_mod, b_pow, b_shl, b_shr, b_and, b_or, b_xor, c_eq, c_ne, c_lt, c_le, c_gt, c_ge, c_eqb, c_neb, c_non, c_isnon, c_isb, c_isnb, endK_ret, endK_next, rf_0, sw_0, rf_1, sw_1, rf_2, sw_2, rf_3, sw_3, rf_4, sw_4, rf_5, sw_5, rf_6, sw_6, rf_7, sw_7, tup_0, lst_0, tup_1, lst_1, tup_2, lst_2, tup_3, lst_3, tup_4, lst_4, tup_5, lst_5, tup_6, lst_6, tup_7, lst_7, endW_ret, endW_next, stepW_next, stepW_cnt, stepW_brk, stepW_ret, List.map_cons, List.map_nil, List.length_cons, List.length_nil, List.replicate, List.cons_append, List.nil_append, List.set_cons_zero, List.set_cons_succ, List.getElem?_cons_zero, List.getElem?_cons_succ, Option.some.injEq, D.int.injEq, D.bl.injEq, exEq, exists_eq_left', if_true, if_false, Bool.false_eq_true, decide_eq_true_eq, Option.isSome_some, true_and, reduceCtorEq, bit_p1, bit_p0, dec_false, dec_true, not_true_p, Int.toNat_natCast, Nat.reduceAdd, Nat.reduceSub, pair _ _ _ _ _ _ _ _ _ _ _ _ _ F1 F2, pair _ _ _ _ _ _ _ _ _ _ _ _ _ F2 F1, twice _ _ _ _ _ _ _ _ F1, twice _ _ _ _ _ _ _ _ F2, Bool.not_true]
  refine ⟨by decide, ?_⟩
  rw [show (3 : Int).toNat = 3 from rfl]
  refine W_forR0 (n := 3) (fun i σ S' => ∃ x13 x14, σ = [some (.lst (il ns)), some (.ref 0), some (.int (N : Int)), some (mk2 f g), some (.lst ds), some (.ref 1), x, some (roomD pl r1 r2 r3 r4), some (.int c), some (own5 c n1 b1 a1 d1), some (own5 c' n2 b2 a2 d2), x11, x12, x13, x14] ∧ St 0 (2000 + 20 * i) S' S') ⟨_, _, rfl, q12.mono (by omega)⟩ (fun i σ S' hi h => ?_) (fun σ S' h => ?_)
  · obtain ⟨x13, x14, rfl, q13⟩ := h
    try simp only [List.length_map, b_nil, b_cons, k_next, k_ret, k_brk, k_cnt, f_for, f_comp, ss_pass, ss_ret, ss_retN, ss_expr, ss_set, ss_tset, ss_sub, ss_sfld, ss_aug, ss_ite, ss_for, ss_whl, ss_brk, ss_cnt, e_slot, e_non, e_bl, e_int, e_str, e_bin, e_neg, e_inv, e_cmp, e_chain, e_and, e_or, e_not, e_ife, e_tup, e_lst, e_call, e_mk, e_bi, e_met, e_om, e_idx, e_slc, e_fld, e_comp, e_frz, t_and, t_or, t_not, t_val, q_none, q_some, es_nil, es_cons, o_none, o_some, i_val, i_rng, i_rng2, i_enum, i_zip, i_rev, a_nm, a_tp, sets_nil, sets_cons, wipe_nil, wipe_cons, tru_bl, tru_int, seq_lst, seq_tup, lst_lst, bi_len, bi_lenT, bi_abs, bi_int, bi_min2, bi_max2, bi_listL, bi_tupleL, bi_sum, W_ok, b_add, b_sub, b_mul, b_div, b_mod, b_pow, b_shl, b_shr, b_and, b_or, b_xor, c_eq, c_ne, c_lt, c_le, c_gt, c_ge, c_eqb, c_neb, c_non, c_isnon, c_isb, c_isnb, endK_ret, endK_next, rf_0, sw_0, rf_1, sw_1, rf_2, sw_2, rf_3, sw_3, rf_4, sw_4, rf_5, sw_5, rf_6, sw_6, rf_7, sw_7, tup_0, lst_0, tup_1, lst_1, tup_2, lst_2, tup_3, lst_3, tup_4, lst_4, tup_5, lst_5, tup_6, lst_6, tup_7, lst_7, endW_ret, endW_next, stepW_next, stepW_cnt, stepW_brk, stepW_ret, List.map_cons, List.map_nil, List.length_cons, List.length_nil, List.replicate, List.cons_append, List.nil_append, List.set_cons_zero, List.set_cons_succ, List.getElem?_cons_zero, List.getElem?_cons_succ, Option.some.injEq, D.int.injEq, D.bl.injEq, exEq, exists_eq_left', if_true, if_false, Bool.false_eq_true, decide_eq_true_eq, Option.isSome_some, true_and, reduceCtorEq, bit_p1, bit_p0, dec_false, dec_true, not_true_p, Int.toNat_natCast, Nat.reduceAdd, Nat.reduceSub]
    refine ⟨⟨by omega, by omega⟩, ?_⟩
    refine comp_sg (k := 0) (n := N) (by omega) q13 (fun j b' S' hj hb' g => ?_) (fun ms S4 hL hms q4 => ?_)
    · try simp only [List.length_map, b_nil, b_cons, k_next, k_ret, k_brk, k_cnt, f_for, f_comp, ss_pass, ss_ret, ss_retN, ss_expr, ss_set, ss_tset, ss_sub, ss_sfld, ss_aug, ss_ite, ss_for, ss_whl, ss_brk, ss_cnt, e_slot, e_non, e_bl, e_int, e_str, e_bin, e_neg, e_inv, e_cmp, e_chain, e_and, e_or, e_not, e_ife, e_tup, e_lst, e_call, e_mk, e_bi, e_met, e_om, e_idx, e_slc, e_fld, e_comp, e_frz, t_and, t_or, t_not, t_val, q_none, q_some, es_nil, es_cons, o_none, o_some, i_val, i_rng, i_rng2, i_enum, i_zip, i_rev, a_nm, a_tp, sets_nil, sets_cons, wipe_nil, wipe_cons, tru_bl, tru_int, seq_lst, seq_tup, lst_lst, bi_len, bi_lenT, bi_abs, bi_int, bi_min2, bi_max2, bi_listL, bi_tupleL, bi_sum, W_ok, b_add, b_sub, b_mul, b_div, b_mod, b_pow, b_shl, b_shr, b_and, b_or, b_xor, c_eq, c_ne, c_lt, c_le, c_gt, c_ge, c_eqb, c_neb, c_non, c_isnon, c_isb, c_isnb, endK_ret, endK_next, rf_0, sw_0, rf_1, sw_1, rf_2, sw_2, rf_3, sw_3, rf_4, sw_4, rf_5, sw_5, rf_6, sw_6, rf_7, sw_7, tup_0, lst_0, tup_1, lst_1, tup_2, lst_2, tup_3, lst_3, tup_4, lst_4, tup_5, lst_5, tup_6, lst_6, tup_7, lst_7, endW_ret, endW_next, stepW_next, stepW_cnt, stepW_brk, stepW_ret, List.map_cons, List.map_nil, List.length_cons, List.length_nil, List.replicate, List.cons_append, List.nil_append, List.set_cons_zero, List.set_cons_succ, List.getElem?_cons_zero, List.getElem?_cons_succ, Option.some.injEq, D.int.injEq, D.bl.injEq, exEq, exists_eq_left', if_true, if_false, Bool.false_eq_true, decide_eq_true_eq, Option.isSome_some, true_and, reduceCtorEq, bit_p1, bit_p0, dec_false, dec_true, not_true_p, Int.toNat_natCast, Nat.reduceAdd, Nat.reduceSub]
      refine (signs_ok (k := 10) g (by omega)).mono fun d S5 q => ?_
      exact q
    simp only [List.length_map, b_nil, b_cons, k_next, k_ret, k_brk, k_cnt, f_for, f_comp, ss_pass, ss_ret, ss_retN, ss_expr, ss_set, ss_tset, ss_sub, ss_sfld, ss_aug, ss_ite, ss_for, ss_whl, ss_brk, ss_cnt, e_slot, e_non, e_bl, e_int, e_str, e_bin, e_neg, e_inv, e_cmp, e_chain, e_and, e_or, e_not, e_ife, e_tup, e_lst, e_call, e_mk, e_bi, e_met, e_om, e_idx, e_slc, e_fld, e_comp, e_frz, t_and, t_or, t_not, t_val, q_none, q_some, es_nil, es_cons, o_none, o_some, i_val, i_rng, i_rng2, i_enum, i_zip, i_rev, a_nm, a_tp, sets_nil, sets_cons, wipe_nil, wipe_cons, tru_bl, tru_int, seq_lst, seq_tup, lst_lst, bi_len, bi_lenT, bi_abs, bi_int, bi_min2, bi_max2, bi_listL, bi_tupleL, bi_sum, W_ok, b_add, b_sub, b_mul, b_div, b_mod, b_pow, b_shl, b_shr, b_and, b_or, b_xor, c_eq, c_ne, c_lt, c_le, c_gt, c_ge, c_eqb, c_neb, c_non, c_isnon, c_isb, c_isnb, endK_ret, endK_next, rf_0, sw_0, rf_1, sw_1, rf_2, sw_2, rf_3, sw_3, rf_4, sw_4, rf_5, sw_5, rf_6, sw_6, rf_7, sw_7, tup_0, lst_0, tup_1, lst_1, tup_2, lst_2, tup_3, lst_3, tup_4, lst_4, tup_5, lst_5, tup_6, lst_6, tup_7, lst_7, endW_ret, endW_next, stepW_next, stepW_cnt, stepW_brk, stepW_ret, List.map_cons, List.map_nil, List.length_cons, List.length_nil, List.replicate, List.cons_append, List.nil_append, List.set_cons_zero, List.set_cons_succ, List.getElem?_cons_zero, List.getElem?_cons_succ, Option.some.injEq, D.int.injEq, D.bl.injEq, exEq, exists_eq_left', if_true, if_false, Bool.false_eq_true, decide_eq_true_eq, Option.isSome_some, true_and, reduceCtorEq, bit_p1, bit_p0, dec_false, dec_true, not_true_p, Int.toNat_natCast, Nat.reduceAdd, Nat.reduceSub, q13.frz q4 (Sg.pures hms)]
    obtain ⟨n3, b3, a3, d3, F3, e4⟩ := case_ok (k := 11) (N := N) (S := S4) (c := c) (d := .lst ms) (ds := ms) (fun X => seq_lst) hL hN6 hms
    rw [show sem T P lv 17 [.int c, .lst ms] S4 = _ from e4, W_ok]
    simp only [List.length_map, b_nil, b_cons, k_next, k_ret, k_brk, k_cnt, f_for, f_comp, ss_pass, ss_ret, ss_retN, ss_expr, ss_set, ss_tset, ss_sub, ss_sfld, ss_aug, ss_ite, ss_for, ss_whl, ss_brk, ss_cnt, e_slot, e_non, e_bl, e_int, e_str, e_bin, e_neg, e_inv, e_cmp, e_chain, e_and, e_or, e_not, e_ife, e_tup, e_lst, e_call, e_mk, e_bi, e_met, e_om, e_idx, e_slc, e_fld, e_comp, e_frz, t_and, t_or, t_not, t_val, q_none, q_some, es_nil, es_cons, o_none, o_some, i_val, i_rng, i_rng2, i_enum, i_zip, i_rev, a_nm, a_tp, sets_nil, sets_cons, wipe_nil, wipe_cons, tru_bl, tru_int, seq_lst, seq_tup, lst_lst, bi_len, bi_lenT, bi_abs, bi_int, bi_min2, bi_max2, bi_listL, bi_tupleL, bi_sum, W_ok, b_add, b_sub, b_mul, b_div, b_mod, b_pow, b_shl, b_shr, b_and, b_or, b_xor, c_eq, c_ne, c_lt, c_le, c_gt, c_ge, c_eqb, c_neb, c_non, c_isnon, c_isb, c_isnb, endK_ret, endK_next, rf_0, sw_0, rf_1, sw_1, rf_2, sw_2, rf_3, sw_3, rf_4, sw_4, rf_5, sw_5, rf_6, sw_6, rf_7, sw_7, tup_0, lst_0, tup_1, lst_1, tup_2, lst_2, tup_3, lst_3, tup_4, lst_4, tup_5, lst_5, tup_6, lst_6, tup_7, lst_7, endW_ret, endW_next, stepW_next, stepW_cnt, stepW_brk, stepW_ret, List.map_cons, List.map_nil, List.length_cons, List.length_nil, List.replicate, List.cons_append, List.nil_append, List.set_cons_zero, List.set_cons_succ, List.getElem?_cons_zero, List.getElem?_cons_succ, Option.some.injEq, D.int.injEq, D.bl.injEq, exEq, exists_eq_left', if_true, if_false, Bool.false_eq_true, decide_eq_true_eq, Option.isSome_some, true_and, reduceCtorEq, bit_p1, bit_p0, dec_false, dec_true, not_true_p, Int.toNat_natCast, Nat.reduceAdd, Nat.reduceSub, pair _ _ _ _ _ _ _ _ _ _ _ _ _ F3 F2, Bool.not_true]
    obtain ⟨o4, g4, p4⟩ := q4.get
    exact ⟨_, _, rfl, (St.self g4 p4).mono (by omega)⟩
  obtain ⟨x13, x14, rfl, q13⟩ := h
  simp only [List.length_map, b_nil, b_cons, k_next, k_ret, k_brk, k_cnt, f_for, f_comp, ss_pass, ss_ret, ss_retN, ss_expr, ss_set, ss_tset, ss_sub, ss_sfld, ss_aug, ss_ite, ss_for, ss_whl, ss_brk, ss_cnt, e_slot, e_non, e_bl, e_int, e_str, e_bin, e_neg, e_inv, e_cmp, e_chain, e_and, e_or, e_not, e_ife, e_tup, e_lst, e_call, e_mk, e_bi, e_met, e_om, e_idx, e_slc, e_fld, e_comp, e_frz, t_and, t_or, t_not, t_val, q_none, q_some, es_nil, es_cons, o_none, o_some, i_val, i_rng, i_rng2, i_enum, i_zip, i_rev, a_nm, a_tp, sets_nil, sets_cons, wipe_nil, wipe_cons, tru_bl, tru_int, seq_lst, seq_tup, lst_lst, bi_len, bi_lenT, bi_abs, bi_int, bi_min2, bi_max2, bi_listL, bi_tupleL, bi_sum, W_ok, b_add, b_sub, b_mul, b_div, b_mod, b_pow, b_shl, b_shr, b_and, b_or, b_xor, c_eq, c_ne, c_lt, c_le, c_gt, c_ge, c_eqb, c_neb, c_non, c_isnon, c_isb, c_isnb, endK_ret, endK_next, rf_0, sw_0, rf_1, sw_1, rf_2, sw_2, rf_3, sw_3, rf_4, sw_4, rf_5, sw_5, rf_6, sw_6, rf_7, sw_7, tup_0, lst_0, tup_1, lst_1, tup_2, lst_2, tup_3, lst_3, tup_4, lst_4, tup_5, lst_5, tup_6, lst_6, tup_7, lst_7, endW_ret, endW_next, stepW_next, stepW_cnt, stepW_brk, stepW_ret, List.map_cons, List.map_nil, List.length_cons, List.length_nil, List.replicate, List.cons_append, List.nil_append, List.set_cons_zero, List.set_cons_succ, List.getElem?_cons_zero, List.getElem?_cons_succ, Option.some.injEq, D.int.injEq, D.bl.injEq, exEq, exists_eq_left', if_true, if_false, Bool.false_eq_true, decide_eq_true_eq, Option.isSome_some, true_and, reduceCtorEq, bit_p1, bit_p0, dec_false, dec_true, not_true_p, Int.toNat_natCast, Nat.reduceAdd, Nat.reduceSub, flips _ _ _ _ _ _ _ _ _ _ _ _ _ F1 F2]
  rw [end_pure (S := []) trivial rfl]
end K19
open PySem PySem.W PyProof.Rows
set_option maxHeartbeats 0 in
theorem PySem.Challenge.cw_cheapestornone_k19_useless_and_dominatin_holds : PySem.Challenge.rw_cheapestornone_k19_useless_and_dominatin.Holds := by
  w_on; o_law; k_head; (case hw => w_witness2)
  k_fill
  refine L2.walk_of (l := PySem.Challenge.rw_cheapestornone_k19_useless_and_dominatin) (n := K19.most) (k := 2 * K19.lv + 2) (x := "script") (CX := fun _ => L2.CX0) (sp := fun w => Py.spG (K19.cfg _) (Py.sem K19.T K19.P (K19.lv + 1) 27)) rfl (by decide) rfl ⟨rfl, by decide, by decide⟩ (fun w h Y => PySem.W.kIn_of Y) ?F (fun _ _ a ns hl _ hS => (K19.law_true ns hl).elim fun _ h => Py.spG_law hS h) (fun _ _ _ _ _ h => h)
  case F =>
    intro w mg fa h KX G hmg
    have k0 : Py.ClsAt (PySem.Challenge.cw_cheapestornone_k19_useless_and_dominatin_holds.heap_39 w.params) "Case" ["name", "things", "signs", "cost", "needs", "bars", "adds", "drops"] := by
      refine' Py.ClsAt.mk' ?a ?pg ?hd ?po ?sa ?mk ?kc ⟨?f0, ?f1, ?f2, ?f3, ?f4, ?f5, ?f6, ?f7, trivial⟩
      (case a => k_is); (case pg => k_is); (case hd => k_is); (case po => k_is); (case sa => k_is); (case mk => k_is); (case kc => k_is); (case f0 => k_is); (case f1 => k_is); (case f2 => k_is); (case f3 => k_is); (case f4 => k_is); (case f5 => k_is); (case f6 => k_is); (case f7 => k_is)
    obtain ⟨f0, d0⟩ : ∃ f, Py.DefAt (PySem.Challenge.cw_cheapestornone_k19_useless_and_dominatin_holds.heap_39 w.params) "useless" K19.s0 f := by
      refine' Py.DefAt.mk' ?a ?l ?c ?k; (case a => k_is); (case l => k_is); (case c => k_is); (case k => k_is)
    obtain ⟨f1, d1⟩ : ∃ f, Py.DefAt (PySem.Challenge.cw_cheapestornone_k19_useless_and_dominatin_holds.heap_39 w.params) "keeps_asked_for" K19.s1 f := by
      refine' Py.DefAt.mk' ?a ?l ?c ?k; (case a => k_is); (case l => k_is); (case c => k_is); (case k => k_is)
    obtain ⟨f2, d2⟩ : ∃ f, Py.DefAt (PySem.Challenge.cw_cheapestornone_k19_useless_and_dominatin_holds.heap_39 w.params) "keeps_asked_against" K19.s2 f := by
      refine' Py.DefAt.mk' ?a ?l ?c ?k; (case a => k_is); (case l => k_is); (case c => k_is); (case k => k_is)
    obtain ⟨f3, d3⟩ : ∃ f, Py.DefAt (PySem.Challenge.cw_cheapestornone_k19_useless_and_dominatin_holds.heap_39 w.params) "dominates" K19.s3 f := by
      refine' Py.DefAt.mk' ?a ?l ?c ?k; (case a => k_is); (case l => k_is); (case c => k_is); (case k => k_is)
    obtain ⟨f4, d4⟩ : ∃ f, Py.MethAt (PySem.Challenge.cw_cheapestornone_k19_useless_and_dominatin_holds.heap_39 w.params) "Case" "__init__" "Case.__init__" K19.s4 f := by
      refine' Py.MethAt.mk' ?n ?a ?i ?l ?c ?k; (case n => k_is); (case a => k_is); (case i => k_is); (case l => k_is); (case c => k_is); (case k => k_is)
    obtain ⟨f5, d5⟩ : ∃ f, Py.DefAt (PySem.Challenge.cw_cheapestornone_k19_useless_and_dominatin_holds.heap_39 w.params) "_law_tape" K19.s5 f := by
      refine' Py.DefAt.mk' ?a ?l ?c ?k; (case a => k_is); (case l => k_is); (case c => k_is); (case k => k_is)
    obtain ⟨f6, d6⟩ : ∃ f, Py.DefAt (PySem.Challenge.cw_cheapestornone_k19_useless_and_dominatin_holds.heap_39 w.params) "_law_take" K19.s6 f := by
      refine' Py.DefAt.mk' ?a ?l ?c ?k; (case a => k_is); (case l => k_is); (case c => k_is); (case k => k_is)
    obtain ⟨f7, d7⟩ : ∃ f, Py.DefAt (PySem.Challenge.cw_cheapestornone_k19_useless_and_dominatin_holds.heap_39 w.params) "_law_cost" K19.s7 f := by
      refine' Py.DefAt.mk' ?a ?l ?c ?k; (case a => k_is); (case l => k_is); (case c => k_is); (case k => k_is)
    obtain ⟨f8, d8⟩ : ∃ f, Py.DefAt (PySem.Challenge.cw_cheapestornone_k19_useless_and_dominatin_holds.heap_39 w.params) "_law_same" K19.s8 f := by
      refine' Py.DefAt.mk' ?a ?l ?c ?k; (case a => k_is); (case l => k_is); (case c => k_is); (case k => k_is)
    obtain ⟨f9, d9⟩ : ∃ f, Py.DefAt (PySem.Challenge.cw_cheapestornone_k19_useless_and_dominatin_holds.heap_39 w.params) "_law_mask" K19.s9 f := by
      refine' Py.DefAt.mk' ?a ?l ?c ?k; (case a => k_is); (case l => k_is); (case c => k_is); (case k => k_is)
    obtain ⟨f10, d10⟩ : ∃ f, Py.DefAt (PySem.Challenge.cw_cheapestornone_k19_useless_and_dominatin_holds.heap_39 w.params) "_law_can" K19.s10 f := by
      refine' Py.DefAt.mk' ?a ?l ?c ?k; (case a => k_is); (case l => k_is); (case c => k_is); (case k => k_is)
    obtain ⟨f11, d11⟩ : ∃ f, Py.DefAt (PySem.Challenge.cw_cheapestornone_k19_useless_and_dominatin_holds.heap_39 w.params) "_law_next" K19.s11 f := by
      refine' Py.DefAt.mk' ?a ?l ?c ?k; (case a => k_is); (case l => k_is); (case c => k_is); (case k => k_is)
    obtain ⟨f12, d12⟩ : ∃ f, Py.DefAt (PySem.Challenge.cw_cheapestornone_k19_useless_and_dominatin_holds.heap_39 w.params) "_law_covers" K19.s12 f := by
      refine' Py.DefAt.mk' ?a ?l ?c ?k; (case a => k_is); (case l => k_is); (case c => k_is); (case k => k_is)
    obtain ⟨f13, d13⟩ : ∃ f, Py.DefAt (PySem.Challenge.cw_cheapestornone_k19_useless_and_dominatin_holds.heap_39 w.params) "_law_after" K19.s13 f := by
      refine' Py.DefAt.mk' ?a ?l ?c ?k; (case a => k_is); (case l => k_is); (case c => k_is); (case k => k_is)
    obtain ⟨f14, d14⟩ : ∃ f, Py.DefAt (PySem.Challenge.cw_cheapestornone_k19_useless_and_dominatin_holds.heap_39 w.params) "_law_fits" K19.s14 f := by
      refine' Py.DefAt.mk' ?a ?l ?c ?k; (case a => k_is); (case l => k_is); (case c => k_is); (case k => k_is)
    obtain ⟨f15, d15⟩ : ∃ f, Py.DefAt (PySem.Challenge.cw_cheapestornone_k19_useless_and_dominatin_holds.heap_39 w.params) "_law_signs" K19.s15 f := by
      refine' Py.DefAt.mk' ?a ?l ?c ?k; (case a => k_is); (case l => k_is); (case c => k_is); (case k => k_is)
    obtain ⟨f16, d16⟩ : ∃ f, Py.DefAt (PySem.Challenge.cw_cheapestornone_k19_useless_and_dominatin_holds.heap_39 w.params) "_law_beside" K19.s16 f := by
      refine' Py.DefAt.mk' ?a ?l ?c ?k; (case a => k_is); (case l => k_is); (case c => k_is); (case k => k_is)
    obtain ⟨f17, d17⟩ : ∃ f, Py.DefAt (PySem.Challenge.cw_cheapestornone_k19_useless_and_dominatin_holds.heap_39 w.params) "_law_case_of" K19.s17 f := by
      refine' Py.DefAt.mk' ?a ?l ?c ?k; (case a => k_is); (case l => k_is); (case c => k_is); (case k => k_is)
    obtain ⟨f18, d18⟩ : ∃ f, Py.DefAt (PySem.Challenge.cw_cheapestornone_k19_useless_and_dominatin_holds.heap_39 w.params) "_law_placed" K19.s18 f := by
      refine' Py.DefAt.mk' ?a ?l ?c ?k; (case a => k_is); (case l => k_is); (case c => k_is); (case k => k_is)
    obtain ⟨f19, d19⟩ : ∃ f, Py.DefAt (PySem.Challenge.cw_cheapestornone_k19_useless_and_dominatin_holds.heap_39 w.params) "_law_room" K19.s19 f := by
      refine' Py.DefAt.mk' ?a ?l ?c ?k; (case a => k_is); (case l => k_is); (case c => k_is); (case k => k_is)
    obtain ⟨f20, d20⟩ : ∃ f, Py.DefAt (PySem.Challenge.cw_cheapestornone_k19_useless_and_dominatin_holds.heap_39 w.params) "_law_told" K19.s20 f := by
      refine' Py.DefAt.mk' ?a ?l ?c ?k; (case a => k_is); (case l => k_is); (case c => k_is); (case k => k_is)
    obtain ⟨f21, d21⟩ : ∃ f, Py.DefAt (PySem.Challenge.cw_cheapestornone_k19_useless_and_dominatin_holds.heap_39 w.params) "_law_handed" K19.s21 f := by
      refine' Py.DefAt.mk' ?a ?l ?c ?k; (case a => k_is); (case l => k_is); (case c => k_is); (case k => k_is)
    obtain ⟨f22, d22⟩ : ∃ f, Py.DefAt (PySem.Challenge.cw_cheapestornone_k19_useless_and_dominatin_holds.heap_39 w.params) "_law_all_cover" K19.s22 f := by
      refine' Py.DefAt.mk' ?a ?l ?c ?k; (case a => k_is); (case l => k_is); (case c => k_is); (case k => k_is)
    obtain ⟨f23, d23⟩ : ∃ f, Py.DefAt (PySem.Challenge.cw_cheapestornone_k19_useless_and_dominatin_holds.heap_39 w.params) "_law_pair_fine" K19.s23 f := by
      refine' Py.DefAt.mk' ?a ?l ?c ?k; (case a => k_is); (case l => k_is); (case c => k_is); (case k => k_is)
    obtain ⟨f24, d24⟩ : ∃ f, Py.DefAt (PySem.Challenge.cw_cheapestornone_k19_useless_and_dominatin_holds.heap_39 w.params) "_law_flipped" K19.s24 f := by
      refine' Py.DefAt.mk' ?a ?l ?c ?k; (case a => k_is); (case l => k_is); (case c => k_is); (case k => k_is)
    obtain ⟨f25, d25⟩ : ∃ f, Py.DefAt (PySem.Challenge.cw_cheapestornone_k19_useless_and_dominatin_holds.heap_39 w.params) "_law_flips_fine" K19.s25 f := by
      refine' Py.DefAt.mk' ?a ?l ?c ?k; (case a => k_is); (case l => k_is); (case c => k_is); (case k => k_is)
    obtain ⟨f26, d26⟩ : ∃ f, Py.DefAt (PySem.Challenge.cw_cheapestornone_k19_useless_and_dominatin_holds.heap_39 w.params) "_law_twice_fine" K19.s26 f := by
      refine' Py.DefAt.mk' ?a ?l ?c ?k; (case a => k_is); (case l => k_is); (case c => k_is); (case k => k_is)
    obtain ⟨f27, d27⟩ : ∃ f, Py.DefAt (PySem.Challenge.cw_cheapestornone_k19_useless_and_dominatin_holds.heap_39 w.params) "law" K19.s27 f := by
      refine' Py.DefAt.mk' ?a ?l ?c ?k; (case a => k_is); (case l => k_is); (case c => k_is); (case k => k_is)
    have z : Py.NoneAll (PySem.Challenge.cw_cheapestornone_k19_useless_and_dominatin_holds.heap_39 w.params) Py.bnames := by
      refine' ⟨?z0, ?z1, ?z2, ?z3, ?z4, ?z5, ?z6, ?z7, ?z8, ?z9, ?z10, ?z11, ?z12, ?z13, ?z14, ?z15, ?z16, ?z17, ?z18, trivial⟩
      (case z0 => k_is); (case z1 => k_is); (case z2 => k_is); (case z3 => k_is); (case z4 => k_is); (case z5 => k_is); (case z6 => k_is); (case z7 => k_is); (case z8 => k_is); (case z9 => k_is); (case z10 => k_is); (case z11 => k_is); (case z12 => k_is); (case z13 => k_is); (case z14 => k_is); (case z15 => k_is); (case z16 => k_is); (case z17 => k_is); (case z18 => k_is)
    exact Py.law_end (c := K19.cfg _) (k := K19.lv) KX G hmg (K19.prog (fun x f => PySem.W.mg_of KX G) (fun x => PySem.W.mg_none_of KX G) z k0 ⟨_, d0⟩ ⟨_, d1⟩ ⟨_, d2⟩ ⟨_, d3⟩ ⟨_, d4⟩ ⟨_, d5⟩ ⟨_, d6⟩ ⟨_, d7⟩ ⟨_, d8⟩ ⟨_, d9⟩ ⟨_, d10⟩ ⟨_, d11⟩ ⟨_, d12⟩ ⟨_, d13⟩ ⟨_, d14⟩ ⟨_, d15⟩ ⟨_, d16⟩ ⟨_, d17⟩ ⟨_, d18⟩ ⟨_, d19⟩ ⟨_, d20⟩ ⟨_, d21⟩ ⟨_, d22⟩ ⟨_, d23⟩ ⟨_, d24⟩ ⟨_, d25⟩ ⟨_, d26⟩ ⟨_, d27⟩) d27 K19.t27 rfl (fun _ _ _ _ _ _ s v => .of_eq rfl)
