import PyProof.Rows.All
import Wide.All
import OpenK.AllK
import Wide.FinOn
import KE.KeyNested
import KE.SortData
import KE.DataMinMax
import HandS.ForMost
import HandS.ForExc
import HandS.CallSlots
import HandS.Flow
import HandS.Style
import KE.KDictKeyed
import HandS.Deep
import HandS.SetKeys
import HandS.TupAny
import HandS.Text
import HandS.Sort
import HandS.TupLen
import KE.KDictSum
import KE.KDictCopyH
import HandS.More
import HandS.Zip
import HandS.IsInst
import KE.GoesMore
import HandS.TryMany
import HandS.ExcField
import OpenK.KMeth
import HandS.Records
import HandS.ExcOwn
import HandS.Comp
import HandS.DictComp
import HandS.HeadHook2
import HandS.HeadEnd
import HandS.Head0
import HandS.Head1
import HandS.Head2
import PySem.Challenge.RW_allbrokers_k56_whole_lags_and_rates
set_option Elab.async false
set_option linter.all false
set_option maxRecDepth 100000
/-! Z0: pure data, the compact syntax, the evaluator. -/
namespace Zi
open PySem

/-- values: tuples, and lists, dicts, instances that are never changed again, are data; what may be changed is a number in the model's heap -/
inductive D where
  | non | bl (b : Bool) | int (i : Int) | str (s : Str)
  | tup (ds : List D) | lst (ds : List D) | dct (t : Bool) (kvs : List (D × D)) | ins (c : String) (fs : List (String × D))
  | ref (i : Nat) | kls (ds : List D)
instance : Inhabited D := ⟨.non⟩
/-- what may be changed -/
inductive Ob where
  | lst (ds : List D) | dct (t : Bool) (kvs : List (D × D)) | ins (c : String) (fs : List (String × D))
abbrev MH := List (Option Ob)
abbrev Ev := List (Option D)
abbrev Fs := List (String × D)

inductive R (α : Type) where
  | ok (a : α) (m : MH)
  | exc (c : String) (fs : Fs) (m : MH)
  | bad
namespace R
variable {α β : Type}
def bind (x : R α) (f : α → MH → R β) : R β := match x with
  | .ok a m => f a m
  | .exc c fs m => .exc c fs m
  | .bad => .bad
@[simp] theorem bind_ok (a : α) (m : MH) (f : α → MH → R β) : (R.ok a m).bind f = f a m := rfl
@[simp] theorem bind_exc (c : String) (fs : Fs) (m : MH) (f : α → MH → R β) : (R.exc c fs m : R α).bind f = .exc c fs m := rfl
@[simp] theorem bind_bad (f : α → MH → R β) : (R.bad : R α).bind f = .bad := rfl
end R

/-! ### a normal form up to ==: keys, equality, order -/
inductive K2 where
  | none | num (i : Int) | text (x : Str) | tup (ks : List K2) | lst (ks : List K2)
namespace K2
mutual
def beq : K2 → K2 → Bool
  | .none, .none => true
  | .num a, .num b => decide (a = b)
  | .text a, .text b => decide (a = b)
  | .tup a, .tup b => beqs a b
  | .lst a, .lst b => beqs a b
  | _, _ => false
def beqs : List K2 → List K2 → Bool
  | [], [] => true
  | a :: as, b :: bs => beq a b && beqs as bs
  | _, _ => false
end
mutual
theorem beq_self : ∀ a : K2, beq a a = true
  | .none => by simp [beq]
  | .num a => by simp [beq]
  | .text a => by simp [beq]
  | .tup a => by simp [beq, beqs_self a]
  | .lst a => by simp [beq, beqs_self a]
theorem beqs_self : ∀ a : List K2, beqs a a = true
  | [] => by simp [beqs]
  | a :: as => by simp [beqs, beq_self a, beqs_self as]
end
mutual
theorem eq_of_beq : ∀ a b : K2, beq a b = true → a = b
  | .none, b, h => by cases b <;> simp [beq] at h; rfl
  | .num a, b, h => by cases b <;> simp [beq] at h; rw [h]
  | .text a, b, h => by cases b <;> simp [beq] at h; rw [h]
  | .tup a, b, h => by
    cases b <;> simp [beq] at h
    rw [eq_of_beqs a _ h]
  | .lst a, b, h => by
    cases b <;> simp [beq] at h
    rw [eq_of_beqs a _ h]
theorem eq_of_beqs : ∀ a b : List K2, beqs a b = true → a = b
  | [], b, h => by cases b <;> simp [beqs] at h; rfl
  | a :: as, b, h => by
    cases b with
    | nil => simp [beqs] at h
    | cons b bs =>
      simp [beqs] at h
      rw [eq_of_beq a b h.1, eq_of_beqs as bs h.2]
end
instance : DecidableEq K2 := fun a b => if h : beq a b = true then .isTrue (eq_of_beq a b h) else .isFalse fun e => h (e ▸ beq_self a)
mutual
/-- a < b, where both are of one shape -/
def lt : K2 → K2 → Bool
  | .num a, .num b => decide (a < b)
  | .text a, .text b => decide (a.cps.toList < b.cps.toList)
  | .tup a, .tup b => lts a b
  | .lst a, .lst b => lts a b
  | _, _ => false
def lts : List K2 → List K2 → Bool
  | [], [] => false
  | [], _ :: _ => true
  | _ :: _, [] => false
  | a :: as, b :: bs => if beq a b then lts as bs else lt a b
end
mutual
/-- a and b can be ordered -/
def like : K2 → K2 → Bool
  | .num _, .num _ => true
  | .text _, .text _ => true
  | .tup a, .tup b => likes a b
  | _, _ => false
def likes : List K2 → List K2 → Bool
  | [], [] => true
  | a :: as, b :: bs => like a b && likes as bs
  | _, _ => false
end
mutual
/-- nested at most n deep, texts of real signs -/
def fit : K2 → Nat → Bool
  | .none, _ => true
  | .num _, _ => true
  | .text x, _ => PyData.strOk x
  | .tup ks, n => decide (0 < n) && fits ks (n - 1)
  | .lst ks, n => decide (0 < n) && fits ks (n - 1)
def fits : List K2 → Nat → Bool
  | [], _ => true
  | k :: ks, n => fit k n && fits ks n
end
mutual
/-- may be a key -/
def hashable : K2 → Bool
  | .tup ks => hashables ks
  | .lst _ => false
  | _ => true
def hashables : List K2 → Bool
  | [] => true
  | k :: ks => hashable k && hashables ks
end
end K2
mutual
def nf : D → Option K2
  | .non => some .none
  | .bl b => some (.num (if b then 1 else 0))
  | .int i => some (.num i)
  | .str x => some (.text x)
  | .tup ds => (nfs ds).map K2.tup
  | .lst ds => (nfs ds).map K2.lst
  | .kls ds => (nfs ds).map K2.lst
  | _ => none
def nfs : List D → Option (List K2)
  | [] => some []
  | d :: ds => match nf d, nfs ds with
    | some k, some ks => some (k :: ks)
    | _, _ => none
end
/-- the key that a value is -/
def keyOf : D → Option K2
  | .int i => some (.num i)
  | .str x => some (.text x)
  | .tup ds => match nfs ds with
    | some ks => if K2.hashables ks = true ∧ K2.fits ks 7 = true then some (.tup ks) else none
    | none => none
  | _ => none
/-- .. of a dict of such keys: tuples, or whole numbers and texts -/
def keyFor (t : Bool) (d : D) : Option K2 := match keyOf d with
  | some (.tup q) => if t = true then some (.tup q) else none
  | some k => if t = true then none else some k
  | none => none
def eqD (a b : D) : Option Bool := match nf a, nf b with
  | some p, some q => if p.fit 60 = true ∧ q.fit 60 = true then some (decide (p = q)) else none
  | _, _ => none

mutual
/-- no number of the model's heap within -/
def pure : D → Bool
  | .non | .bl _ | .int _ | .str _ => true
  | .tup ds => pures ds
  | .lst ds => pures ds
  | .kls ds => pures ds
  | .dct _ kvs => pureKV kvs
  | .ins _ fs => pureF fs
  | .ref _ => false
def pures : List D → Bool
  | [] => true
  | d :: ds => pure d && pures ds
def pureKV : List (D × D) → Bool
  | [] => true
  | (a, b) :: r => pure a && (pure b && pureKV r)
def pureF : Fs → Bool
  | [] => true
  | (_, b) :: r => pure b && pureF r
end
mutual
/-- all numbers within are below n -/
def below (n : Nat) : D → Bool
  | .non | .bl _ | .int _ | .str _ => true
  | .tup ds => belows n ds
  | .lst ds => belows n ds
  | .kls ds => belows n ds
  | .dct _ kvs => belowKV n kvs
  | .ins _ fs => belowF n fs
  | .ref i => decide (i < n)
def belows (n : Nat) : List D → Bool
  | [] => true
  | d :: ds => below n d && belows n ds
def belowKV (n : Nat) : List (D × D) → Bool
  | [] => true
  | (a, b) :: r => below n a && (below n b && belowKV n r)
def belowF (n : Nat) : Fs → Bool
  | [] => true
  | (_, b) :: r => below n b && belowF n r
end
mutual
/-- a value with what is told of numbers put in -/
def frzW (k : Nat → Option D) : D → Option D
  | .ref i => k i
  | .tup ds => (frzWs k ds).map D.tup
  | .lst ds => (frzWs k ds).map D.lst
  | .kls ds => (frzWs k ds).map D.kls
  | .dct t kvs => (frzWKV k kvs).map (D.dct t)
  | .ins c fs => (frzWF k fs).map (D.ins c)
  | d => some d
def frzWs (k : Nat → Option D) : List D → Option (List D)
  | [] => some []
  | d :: ds => match frzW k d, frzWs k ds with
    | some x, some xs => some (x :: xs)
    | _, _ => none
def frzWKV (k : Nat → Option D) : List (D × D) → Option (List (D × D))
  | [] => some []
  | (a, b) :: r => match frzW k a, frzW k b, frzWKV k r with
    | some x, some y, some xs => some ((x, y) :: xs)
    | _, _, _ => none
def frzWF (k : Nat → Option D) : Fs → Option Fs
  | [] => some []
  | (f, b) :: r => match frzW k b, frzWF k r with
    | some y, some xs => some ((f, y) :: xs)
    | _, _ => none
end
/-- what a number from base on stands for, for ever -/
def frzAt (base : Nat) (m : MH) : Nat → Nat → Option D
  | 0, _ => none
  | n + 1, i => if i < base then some (.ref i) else match m[i]? with
    | some (some (.lst ds)) => (frzWs (frzAt base m n) ds).map D.lst
    | some (some (.dct t kvs)) => (frzWKV (frzAt base m n) kvs).map (D.dct t)
    | some (some (.ins c fs)) => (frzWF (frzAt base m n) fs).map (D.ins c)
    | _ => none
/-- the value for ever; what stands from base on is then forgotten -/
def frz (base : Nat) (d : D) (m : MH) : R D := match frzW (frzAt base m 8) d with
  | some d' => .ok d' (m.take base)
  | none => .bad
/-- a value that has nothing of what stands from base on: that is forgotten -/
def gc (base : Nat) (d : D) (m : MH) : R D := if below base d then .ok d (m.take base) else .bad

/-! ### reading and writing -/
def SZ : Nat := 16777216
/-- a list that is of the call's own -/
def getW (m : MH) : D → Option (List D)
  | .lst ds => some ds
  | .ref i => match m[i]? with
    | some (some (.lst ds)) => some ds
    | _ => none
  | _ => none
def getL (m : MH) : D → Option (List D)
  | .kls ds => some ds
  | d => getW m d
def getS (m : MH) : D → Option (List D)
  | .tup ds => some ds
  | d => getL m d
def getK (m : MH) : D → Option (Bool × List (D × D))
  | .dct t kvs => some (t, kvs)
  | .ref i => match m[i]? with
    | some (some (.dct t kvs)) => some (t, kvs)
    | _ => none
  | _ => none
def getI (m : MH) : D → Option (String × Fs)
  | .ins c fs => some (c, fs)
  | .ref i => match m[i]? with
    | some (some (.ins c fs)) => some (c, fs)
    | _ => none
  | _ => none
/-- the object at i is changed; what is older than the frame takes pure things alone -/
def put (base i : Nat) (ok : Bool) (o : Ob) (m : MH) : R Unit := if base ≤ i ∨ ok = true then .ok () (m.set i (some o)) else .bad
def mkL (fz : Bool) (ds : List D) (m : MH) : R D :=
  if ds.length ≤ SZ then (if fz then .ok (.lst ds) m else .ok (.ref m.length) (m ++ [some (.lst ds)])) else .bad
def mkK (fz t : Bool) (kvs : List (D × D)) (m : MH) : R D :=
  if kvs.length ≤ SZ then (if fz then .ok (.dct t kvs) m else .ok (.ref m.length) (m ++ [some (.dct t kvs)])) else .bad
def mkT (ds : List D) (m : MH) : R D := if ds.length ≤ SZ then .ok (.tup ds) m else .bad
/-- the value under a key -/
def dget : List (D × D) → K2 → Option D
  | [], _ => none
  | (a, b) :: r, k => if keyOf a = some k then some b else dget r k
def dput (kvs : List (D × D)) (a : D) (k : K2) (v : D) : List (D × D) :=
  if (dget kvs k).isSome = true then kvs.map (fun p => if keyOf p.1 = some k then (p.1, v) else p) else kvs ++ [(a, v)]
def ddel (kvs : List (D × D)) (k : K2) : List (D × D) := kvs.filter fun p => decide (keyOf p.1 ≠ some k)
def fput : Fs → String → D → Fs
  | [], f, v => [(f, v)]
  | (g, u) :: r, f, v => if g = f then (g, v) :: r else (g, u) :: fput r f v
def ixOf (n : Nat) (i : Int) : Option Nat := if 0 ≤ i then (if i < n then some i.toNat else none) else if -(n : Int) ≤ i then some (i + n).toNat else none
def cutIx (n d : Nat) : Option Int → Nat
  | none => d
  | some i => if i < 0 then (i + n).toNat else min i.toNat n
def cutL {α : Type} (xs : List α) (lo hi : Option Int) : List α := (xs.drop (cutIx xs.length 0 lo)).take (cutIx xs.length xs.length hi - cutIx xs.length 0 lo)

/-! ### operators -/
def truth (m : MH) : D → Option Bool
  | .non => some false
  | .bl b => some b
  | .int i => some (i != 0)
  | .str x => if x.length ≤ SZ then some (x.length != 0) else none
  | .tup ds => some (!ds.isEmpty)
  | d => (getL m d).map fun ds => !ds.isEmpty
/-- |i| ≤ k, said so that the kernel does not count down from k -/
def natB (k : Nat) (i : Int) : Bool := Nat.ble i.natAbs k
theorem natB_ok {k : Nat} {i : Int} : natB k i = true ↔ -(k : Int) ≤ i ∧ i ≤ (k : Int) := by
  unfold natB
  rw [Nat.ble_eq]
  omega
def mulOk (i j : Int) : Bool := natB 18446744073709551615 i || natB 18446744073709551615 j
theorem mulOk_of {i j : Int} (h : mulOk i j = true) : (-(2 ^ 64) < i ∧ i < 2 ^ 64) ∨ (-(2 ^ 64) < j ∧ j < 2 ^ 64) := by
  unfold mulOk at h
  rw [Bool.or_eq_true, natB_ok, natB_ok] at h
  omega
def binD (op : Operator) (fz : Bool) (x y : D) (m : MH) : R D := match op, x, y with
  | .Add, .int i, .int j => .ok (.int (i + j)) m
  | .Sub, .int i, .int j => .ok (.int (i - j)) m
  | .Mult, .int i, .int j => if mulOk i j then .ok (.int (i * j)) m else .bad
  | .FloorDiv, .int i, .int j => if 0 < j ∧ natB 1073741823 j = true then .ok (.int (i / j)) m else .bad
  | .Mod, .int i, .int j => if 0 < j then .ok (.int (i % j)) m else .bad
  | .Pow, .int i, .int j => if 0 ≤ j ∧ natB 1000000 j = true ∧ natB 18446744073709551615 i = true then .ok (.int (i ^ j.toNat)) m else .bad
  | .Add, .str a, .str b => if a.length + b.length ≤ SZ then .ok (.str (a ++ b)) m else .bad
  | .Add, .tup a, .tup b => if a.length + b.length ≤ SZ then .ok (.tup (a ++ b)) m else .bad
  | .Add, x, y => match getW m x, getW m y with
    | some a, some b => mkL fz (a ++ b) m
    | _, _ => .bad
  | _, _, _ => .bad
def isNon : D → Bool
  | .non => true
  | _ => false
/-- x in y -/
def inD (x y : D) (m : MH) : Option Bool := match y with
  | .str t => match x with
    | .str s => if s.length = 1 then some (decide (s.cps.getD 0 0 ∈ t.cps.toList)) else none
    | _ => none
  | y => match getS m y with
    | some ds => match nf x, nfs ds with
      | some k, some ks => if k.fit 60 = true ∧ K2.fits ks 60 = true then some (decide (k ∈ ks)) else none
      | _, _ => none
    | none => match getK m y with
      | some (t, kvs) => (keyFor t x).map fun k => (dget kvs k).isSome
      | none => none
def cmpD (op : CmpOp) (x y : D) (m : MH) : Option Bool := match op with
  | .Is => match y with
    | .non => some (isNon x)
    | _ => none
  | .IsNot => match y with
    | .non => some (!isNon x)
    | _ => none
  | .Lt => match x, y with
    | .int i, .int j => some (decide (i < j))
    | .str a, .str b => some (decide (a.cps.toList < b.cps.toList))
    | _, _ => none
  | .LtE => match x, y with
    | .int i, .int j => some (decide (i ≤ j))
    | .str a, .str b => some (!decide (b.cps.toList < a.cps.toList))
    | _, _ => none
  | .Gt => match x, y with
    | .int i, .int j => some (decide (j < i))
    | .str a, .str b => some (decide (b.cps.toList < a.cps.toList))
    | _, _ => none
  | .GtE => match x, y with
    | .int i, .int j => some (decide (j ≤ i))
    | .str a, .str b => some (!decide (a.cps.toList < b.cps.toList))
    | _, _ => none
  | .In => inD x y m
  | .NotIn => (inD x y m).map not
  | .Eq => eqH m x y
  | .NotEq => (eqH m x y).map not
where
  /-- == where lists of the model's heap may stand outermost -/
  eqH (m : MH) (x y : D) : Option Bool := match openL m x, openL m y with
    | some a, some b => eqD a b
    | _, _ => none
  openL (m : MH) : D → Option D
    | .ref i => match m[i]? with
      | some (some (.lst ds)) => some (.lst ds)
      | _ => none
    | d => some d
/-- x[i] -/
def subD (x i : D) (m : MH) : Option D := match getS m x, i with
  | some ds, .int k => (ixOf ds.length k).bind fun j => ds[j]?
  | none, i => match x, i with
    | .str z, .int k => if z.length ≤ SZ then (ixOf z.cps.toList.length k).bind fun j => (z.cps.toList[j]?).map fun c => .str ⟨#[c]⟩ else none
    | x, i => match getK m x with
      | some (t, kvs) => (keyFor t i).bind fun k => dget kvs k
      | none => none
  | _, _ => none
def optI : Option D → Option (Option Int)
  | none => some none
  | some (.int i) => some (some i)
  | _ => none
/-- x[lo:hi] -/
def slcI (fz : Bool) (x : D) (l h : Option Int) (m : MH) : R D := match x with
  | .tup ds => .ok (.tup (cutL ds l h)) m
  | .str z => if z.length ≤ SZ then .ok (.str ⟨(cutL z.cps.toList l h).toArray⟩) m else .bad
  | x => match getL m x with
    | some ds => mkL fz (cutL ds l h) m
    | none => .bad
def slcD (fz : Bool) (x : D) (lo hi : Option D) (m : MH) : R D := match optI lo, optI hi with
  | some l, some h => slcI fz x l h m
  | _, _ => .bad
/-! plain data -/
mutual
def datOf : D → Option PyData
  | .non => some .none
  | .bl b => some (.bool b)
  | .int i => some (.int i)
  | .str x => some (.str x)
  | .tup ds => (datsOf ds).map PyData.tuple
  | .lst ds => (datsOf ds).map PyData.list
  | .kls ds => (datsOf ds).map PyData.list
  | _ => none
def datsOf : List D → Option (List PyData)
  | [] => some []
  | d :: ds => match datOf d, datsOf ds with
    | some k, some ks => some (k :: ks)
    | _, _ => none
end
end Zi
/-! Z0b: the compact syntax and its evaluator. -/
namespace Zi
open PySem

inductive Bl where
  | len | abs | max2 | min2 | maxL | minL | minT | sum | all | any | sorted | list | tuple | int | bool | str | sset | dict
  deriving DecidableEq
inductive Bm where
  | append | pop | popAt | index | count | get1 | get2 | dpop1 | dpop2 | setdef | extend | join | reverse
  deriving DecidableEq
mutual
inductive Z where
  | wal
  | var (i : Nat)
  | lit (d : D)
  | glo (x : String) (d : D)
  | tup (es : List Z)
  | stup (es : List Z) (b : Z) (cs : List Z)
  | lst (fz : Bool) (es : List Z)
  | dct (fz t : Bool) (es : List Z)
  | dst (fz t : Bool) (es : List Z)
  | bin (op : Operator) (fz : Bool) (a b : Z)
  | neg (a : Z)
  | cmp (op : CmpOp) (a b : Z)
  | chn (op op' : CmpOp) (a b c : Z)
  | and (a b : Z) | or (a b : Z) | not (a : Z)
  | ite (t a b : Z)
  | att (a : Z) (f : String)
  | xat (f : String)
  | sub (a i : Z)
  | slc (fz : Bool) (a : Z) (lo hi : Option Z)
  | rev (fz : Bool) (a : Z)
  | call (kp : Bool) (f : String) (es : List Z)
  | met (kp : Bool) (m : String) (o : Z) (es : List Z)
  | own (kp : Bool) (m : String) (o : Z) (es : List Z)
  | mk (fz : Bool) (c : String) (es : List Z)
  | blt (b : Bl) (fz : Bool) (es : List Z)
  | bmt (b : Bm) (fz : Bool) (o : Z) (es : List Z)
  | isi (a : Z) (ts : List String)
  | lc (fz : Bool) (own : List Nat) (e : Z) (c : Cl)
  | lc2 (fz : Bool) (own : List Nat) (e : Z) (c c2 : Cl)
  | dc (fz t : Bool) (own : List Nat) (k v : Z) (c : Cl)
inductive T where
  | nm (i : Nat) | tp (ts : List T) | sb (o i : Z) | at (o : Z) (f : String)
inductive It where
  | seq (e : Z) | rng (es : List Z) | enu (e : Z) | zip (a b : Z) | itm (e : Z) | val (e : Z)
inductive Cl where
  | mk (t : T) (it : It) (ifs : List Z)
end
mutual
inductive S where
  | wal
  | exp (e : Z)
  | asg (t : T) (e : Z)
  | aug (i : Nat) (op : Operator) (e : Z)
  | augS (o i : Z) (op : Operator) (e : Z)
  | augA (o : Z) (f : String) (op : Operator) (e : Z)
  | ret (fz : Bool) (e : Z)
  | ifs (t : Z) (a b : List S)
  | whl (t : Z) (body : List S)
  | for (t : T) (it : It) (body : List S)
  | rais (c : String) (es : List Z)
  | try (body : List S) (hs : List H)
  | frz (i : Nat)
  | pass | brk | cnt
inductive H where
  | mk (cs : List String) (i : Option Nat) (body : List S)
end

structure ZFun where
  np : Nat
  dfl : List D
  star : Bool
  ns : Nat
  body : List S

structure EC where
  base : Nat
  lim : Nat
  sub : String → String → Bool
  cls : String → Bool
  meth : String → String → Option String
  init : String → Option String
  xfs : String → Option (List String)
  fld : String → String → Bool
  con : String → String → Option D
  call : Nat → String → List D → MH → R D
  xf : Fs

inductive Fl where
  | nx (ρ : Ev) | rt (d : D) | bk (ρ : Ev) | ct (ρ : Ev)
inductive RS where
  | ok (f : Fl) (m : MH)
  | exc (c : String) (fs : Fs) (ρ : Ev) (m : MH)
  | bad
def R.st {α : Type} (x : R α) (ρ : Ev) (f : α → MH → RS) : RS := match x with
  | .ok a m => f a m
  | .exc c fs m => .exc c fs ρ m
  | .bad => .bad
@[simp] theorem R.st_ok {α : Type} (a : α) (m : MH) (ρ : Ev) (f : α → MH → RS) : (R.ok a m).st ρ f = f a m := rfl
@[simp] theorem R.st_exc {α : Type} (c : String) (fs : Fs) (m : MH) (ρ : Ev) (f : α → MH → RS) : (R.exc c fs m : R α).st ρ f = .exc c fs ρ m := rfl
@[simp] theorem R.st_bad {α : Type} (ρ : Ev) (f : α → MH → RS) : (R.bad : R α).st ρ f = .bad := rfl
def ofO {α : Type} (o : Option α) (m : MH) : R α := match o with
  | some a => .ok a m
  | none => .bad
@[simp] theorem ofO_some {α : Type} (a : α) (m : MH) : ofO (some a) m = .ok a m := rfl
@[simp] theorem ofO_none {α : Type} (m : MH) : ofO (none : Option α) m = .bad := rfl
/-- where no exception may come out -/
def R.nox {α : Type} : R α → R α
  | .exc _ _ _ => .bad
  | r => r
@[simp] theorem R.nox_ok {α : Type} (a : α) (m : MH) : (R.ok a m).nox = .ok a m := rfl
@[simp] theorem R.nox_exc {α : Type} (c : String) (fs : Fs) (m : MH) : (R.exc c fs m : R α).nox = .bad := rfl
@[simp] theorem R.nox_bad {α : Type} : (R.bad : R α).nox = .bad := rfl
def clrI {α : Type} (i : Option Nat) (ρ : List (Option α)) : List (Option α) := match i with
  | some i => ρ.set i none
  | none => ρ
/-- behind a handler's suite -/
def RS.clr (i : Option Nat) : RS → RS
  | .ok (.nx ρ) m => .ok (.nx (clrI i ρ)) m
  | .ok (.bk ρ) m => .ok (.bk (clrI i ρ)) m
  | .ok (.ct ρ) m => .ok (.ct (clrI i ρ)) m
  | .ok (.rt d) m => .ok (.rt d) m
  | _ => .bad
/-! ### names -/
def asc (s : String) : Bool := s.toByteArray.data.toList.all fun b => decide (b.toNat < 128)
theorem cps_asc : ∀ l : List UInt8, (l.all fun b => decide (b.toNat < 128)) = true → cpsOfBytes 0 0 l = l.map (·.toNat)
  | [], _ => by simp [cpsOfBytes]
  | b :: t, h => by
    rw [List.all_cons, Bool.and_eq_true, decide_eq_true_eq] at h
    rw [cpsOfBytes, if_pos h.1, cps_asc t h.2]
    rfl
theorem map_nat_inj : ∀ {a b : List UInt8}, a.map (·.toNat) = b.map (·.toNat) → a = b
  | [], [], _ => rfl
  | [], _ :: _, h => by simp at h
  | _ :: _, [], h => by simp at h
  | x :: a, y :: b, h => by
    rw [List.map_cons, List.map_cons] at h
    injection h with h1 h2
    rw [UInt8.toNat_inj.mp h1, map_nat_inj h2]
theorem asc_inj {a b : String} (ha : asc a = true) (hb : asc b = true) (h : Str.ofString a = Str.ofString b) : a = b := by
  have h' : (cpsOfBytes 0 0 a.toByteArray.data.toList).toArray = (cpsOfBytes 0 0 b.toByteArray.data.toList).toArray := congrArg Str.cps h
  have h2 : cpsOfBytes 0 0 a.toByteArray.data.toList = cpsOfBytes 0 0 b.toByteArray.data.toList := by simpa using h'
  rw [cps_asc _ ha, cps_asc _ hb] at h2
  have h3 := map_nat_inj h2
  have h4 : a.toByteArray = b.toByteArray := by
    cases e1 : a.toByteArray; cases e2 : b.toByteArray
    rw [e1, e2] at h3
    simp only at h3
    rw [Array.toList_inj.mp h3]
  exact String.toByteArray_inj.mp h4
/-! ### built-ins by values -/
def insBy {α : Type} (le : α → α → Bool) (x : α) : List α → List α
  | [] => [x]
  | y :: r => if le x y then x :: y :: r else y :: insBy le x r
def isortBy {α : Type} (le : α → α → Bool) : List α → List α
  | [] => []
  | x :: r => insBy le x (isortBy le r)
def leP : PyData × D → PyData × D → Bool := PySem.W.dataLe false Prod.fst
def isTupP : PyData → Bool
  | .tuple (_ :: _) => true
  | _ => false
def isAtomP : PyData → Bool
  | .none => false
  | .tuple _ => false
  | _ => true
def sortable (ps : List PyData) : Bool := (ps.all fun p => ps.all fun q => PySem.W.alike p q) && ((ps.all isTupP) || (ps.all isAtomP)) && ps.all fun p => decide (p.depth ≤ 60)
/-- sorted, stably -/
def sortD (ds : List D) : Option (List D) := match datsOf ds with
  | some ps => if sortable ps = true then some ((isortBy leP (ps.zip ds)).map (·.2)) else none
  | none => none
def firstK : List K2 → List D → List D → List D
  | _, [], acc => acc
  | seen, d :: r, acc => match nf d with
    | some k => if k ∈ seen then firstK seen r acc else firstK (k :: seen) r (acc ++ [d])
    | none => acc
def intsD : List D → Option (List Int)
  | [] => some []
  | .int i :: r => (intsD r).map (i :: ·)
  | _ :: _ => none
def boolsD : List D → Option (List Bool)
  | [] => some []
  | .bl i :: r => (boolsD r).map (i :: ·)
  | _ :: _ => none
def maxI : List Int → Int → Int
  | [], a => a
  | b :: r, a => maxI r (if b > a then b else a)
def minI : List Int → Int → Int
  | [], a => a
  | b :: r, a => minI r (if b < a then b else a)
def bltD (b : Bl) (fz : Bool) (xs : List D) (m : MH) : R D := match b, xs with
  | .len, [x] => match x with
    | .str z => if z.length ≤ SZ then .ok (.int z.length) m else .bad
    | x => match getS m x with
      | some ds => .ok (.int ds.length) m
      | none => match getK m x with
        | some (_, kvs) => .ok (.int kvs.length) m
        | none => .bad
  | .abs, [.int i] => .ok (.int (if i < 0 then -i else i)) m
  | .max2, [.int i, .int j] => .ok (.int (if j > i then j else i)) m
  | .min2, [.int i, .int j] => .ok (.int (if j < i then j else i)) m
  | .maxL, [x] => match (getL m x).bind intsD with
    | some (a :: r) => .ok (.int (maxI r a)) m
    | _ => .bad
  | .minL, [x] => match (getL m x).bind intsD with
    | some (a :: r) => .ok (.int (minI r a)) m
    | _ => .bad
  | .minT, [x] => match getL m x with
    | some (d :: ds) => match datsOf (d :: ds) with
      | some (p :: ps) => if sortable (p :: ps) = true then .ok ((ps.zip ds).foldl (fun a y => if PySem.W.dataLt y.1 a.1 = true then y else a) (p, d)).2 m else .bad
      | _ => .bad
    | _ => .bad
  | .sum, [x] => match (getL m x).bind intsD with
    | some ns => .ok (.int ns.sum) m
    | none => .bad
  | .all, [x] => match (getL m x).bind boolsD with
    | some bs => .ok (.bl (bs.all id)) m
    | none => .bad
  | .any, [x] => match (getL m x).bind boolsD with
    | some bs => .ok (.bl (bs.any id)) m
    | none => .bad
  | .sorted, [x] => match getL m x with
    | some ds => (ofO (sortD ds) m).bind fun es m => mkL fz es m
    | none => match getK m x with
      | some (_, kvs) => (ofO (sortD (kvs.map (·.1))) m).bind fun es m => mkL fz es m
      | none => .bad
  | .sset, [x] => match getS m x with
    | some ds => (ofO (sortD (firstK [] ds [])) m).bind fun es m => mkL fz es m
    | none => .bad
  | .list, [x] => match getS m x with
    | some ds => mkL fz ds m
    | none => match getK m x with
      | some (_, kvs) => mkL fz (kvs.map (·.1)) m
      | none => .bad
  | .tuple, [x] => match x with
    | .tup ds => .ok (.tup ds) m
    | x => match getL m x with
      | some ds => mkT ds m
      | none => .bad
  | .dict, [x] => match getK m x with
    | some (false, kvs) => mkK fz false kvs m
    | _ => .bad
  | .int, [.int i] => .ok (.int i) m
  | .int, [.bl k] => .ok (.int (if k then 1 else 0)) m
  | .bool, [.int i] => .ok (.bl (i != 0)) m
  | .bool, [.bl k] => .ok (.bl k) m
  | .str, [.int i] => if i.natAbs.log2 < 1920 then .ok (.str (toString i)) m else .bad
  | _, _ => .bad
/-- the object that x is, to be changed -/
def refOf : D → Option Nat
  | .ref i => some i
  | _ => none
def flatD : D → Bool
  | .non | .bl _ | .int _ | .str _ => true
  | _ => false
/-- == of flat values -/
def eqF : D → D → Bool
  | .non, .non => true
  | .bl a, .bl b => a == b
  | .bl a, .int b => (if a then 1 else 0) == b
  | .int a, .bl b => a == (if b then 1 else 0)
  | .int a, .int b => a == b
  | .str a, .str b => a == b
  | _, _ => false
def bmtD (base : Nat) (b : Bm) (fz : Bool) (o : D) (xs : List D) (m : MH) : R D := match b, xs with
  | .append, [y] => match o with
    | .ref i => match m[i]? with
      | some (some (.lst ds)) => if ds.length < SZ then (put base i (pure y) (.lst (ds ++ [y])) m).bind fun _ m => .ok .non m else .bad
      | _ => .bad
    | _ => .bad
  | .extend, [y] => match o with
    | .ref i => match m[i]?, getW m y with
      | some (some (.lst ds)), some es => if ds.length + es.length ≤ SZ then (put base i (pures es) (.lst (ds ++ es)) m).bind fun _ m => .ok .non m else .bad
      | _, _ => .bad
    | _ => .bad
  | .pop, [] => match o with
    | .ref i => match m[i]? with
      | some (some (.lst ds)) => match ds[ds.length - 1]? with
        | some y => (put base i true (.lst ds.dropLast) m).bind fun _ m => .ok y m
        | none => .bad
      | _ => .bad
    | _ => .bad
  | .popAt, [.int k] => match o with
    | .ref i => match m[i]? with
      | some (some (.lst ds)) => match ixOf ds.length k with
        | some j => match ds[j]? with
          | some y => (put base i true (.lst (ds.eraseIdx j)) m).bind fun _ m => .ok y m
          | none => .bad
        | none => .bad
      | _ => .bad
    | _ => .bad
  | .get1, [k] => match getK m o with
    | some (t, kvs) => (ofO (keyFor t k) m).bind fun q m => .ok ((dget kvs q).getD .non) m
    | none => .bad
  | .get2, [k, d] => match getK m o with
    | some (t, kvs) => (ofO (keyFor t k) m).bind fun q m => .ok ((dget kvs q).getD d) m
    | none => .bad
  | .dpop1, [k] => match o with
    | .ref i => match m[i]? with
      | some (some (.dct t kvs)) => (ofO (keyFor t k) m).bind fun q m => match dget kvs q with
        | some v => (put base i true (.dct t (ddel kvs q)) m).bind fun _ m => .ok v m
        | none => .bad
      | _ => .bad
    | _ => .bad
  | .setdef, [k, d] => match o with
    | .ref i => match m[i]? with
      | some (some (.dct t kvs)) => if kvs.length < SZ then ((ofO (keyFor t k) m).bind fun q m => match dget kvs q with
        | some v => .ok v m
        | none => (put base i (pure k && pure d) (.dct t (dput kvs k q d)) m).bind fun _ m => .ok d m) else .bad
      | _ => .bad
    | _ => .bad
  | .index, [y] => match getL m o with
    | some ds => if flatD y = true ∧ ds.all flatD = true then (ofO (ds.findIdx? (fun d => eqF d y)) m).bind fun (j : Nat) m => .ok (.int j) m else .bad
    | none => .bad
  | _, _ => .bad
def kindD (m : MH) : D → Option String
  | .str _ => some "str"
  | .lst _ => some "list"
  | .kls _ => some "list"
  | .dct _ _ => some "dict"
  | .ref i => match m[i]? with
    | some (some (.lst _)) => some "list"
    | some (some (.dct _ _)) => some "dict"
    | _ => none
  | _ => none
def bmT : Bm → String
  | .append | .pop | .popAt | .extend | .index | .count | .reverse => "list"
  | .get1 | .get2 | .dpop1 | .dpop2 | .setdef => "dict"
  | .join => "str"
/-- o[i] = v -/
def setD (base : Nat) (o i v : D) (m : MH) : R Unit := match o with
  | .ref a => match m[a]? with
    | some (some (.lst ds)) => match i with
      | .int k => match ixOf ds.length k with
        | some j => put base a (pure v) (.lst (ds.set j v)) m
        | none => .bad
      | _ => .bad
    | some (some (.dct t kvs)) => match keyFor t i with
      | some k => if kvs.length < SZ then put base a (pure i && pure v) (.dct t (dput kvs i k v)) m else .bad
      | none => .bad
    | _ => .bad
  | _ => .bad
/-- o.f = v -/
def setA (base : Nat) (fld : String → String → Bool) (o : D) (f : String) (v : D) (m : MH) : R Unit := match o with
  | .ref a => match m[a]? with
    | some (some (.ins c fs)) => if fld c f = true ∧ fs.length < 1000 then put base a (pure v) (.ins c (fput fs f v)) m else .bad
    | _ => .bad
  | _ => .bad
def tyNames : List String := ["NoneType", "bool", "int", "str", "tuple", "list", "dict"]
def tyOf (m : MH) : D → Option String
  | .non => some "NoneType"
  | .bl _ => some "bool"
  | .int _ => some "int"
  | .str _ => some "str"
  | .tup _ => some "tuple"
  | .lst _ => some "list"
  | .kls _ => some "list"
  | .dct false _ => some "dict"
  | .ins c _ => if tyNames.contains c = true then none else some c
  | .ref i => match m[i]? with
    | some (some (.lst _)) => some "list"
    | some (some (.dct false _)) => some "dict"
    | some (some (.ins c _)) => if tyNames.contains c = true then none else some c
    | _ => none
  | _ => none
def knownT (cls : String → Bool) (t : String) : Bool := tyNames.contains t || cls t
def isTy (sub : String → String → Bool) (t : String) : List String → Bool
  | [] => false
  | u :: r => (t == u || (t == "bool" && u == "int") || sub t u) || isTy sub t r
/-- the items that are walked, and what must stand as it is meanwhile -/
def lockOf (m : MH) : D → List (Nat × Ob)
  | .ref i => match m[i]? with
    | some (some o) => [(i, o)]
    | _ => []
  | _ => []
def rngD : List D → Option (List D)
  | [.int n] => if natB 4611686018427387903 n = true then some ((List.range n.toNat).map fun (k : Nat) => .int k) else none
  | [.int a, .int n] => if natB 4611686018427387903 a = true ∧ natB 4611686018427387903 n = true then some ((List.range (n - a).toNat).map fun (k : Nat) => .int (a + k)) else none
  | _ => none
def seqD (m : MH) : D → Option (List D)
  | .tup ds => some ds
  | .dct _ kvs => some (kvs.map (·.1))
  | .str z => some (z.cps.toList.map fun c => .str ⟨#[c]⟩)
  | d => getL m d
def enumD : Nat → List D → List D
  | _, [] => []
  | n, d :: r => .tup [.int n, d] :: enumD (n + 1) r
def zipD : List D → List D → List D
  | a :: as, b :: bs => .tup [a, b] :: zipD as bs
  | _, _ => []
def zip2D (m : MH) (x y : D) : Option (List D) := match x with
  | .tup as => (match y with
    | .tup bs => some (zipD as bs)
    | y => match getL m y with
      | some bs => some (zipD as bs)
      | none => none)
  | x => match getL m x, getL m y with
    | some as, some bs => some (zipD as bs)
    | _, _ => none
/-- what the object at i is now -/
def objAt (m : MH) (i : Nat) : Option Ob := (m[i]?).getD none
def refs1 : D → List Nat
  | .ref i => [i]
  | _ => []

/-- {k: v, ..} -/
def foldK (t : Bool) : List (D × D) → List (D × D) → Option (List (D × D))
  | acc, [] => some acc
  | acc, (k, v) :: r => match keyFor t k with
    | some q => foldK t (dput acc k q v) r
    | none => none
def foldD (t : Bool) (acc : List (D × D)) : List D → MH → Option (List (D × D))
  | [], _ => some acc
  | d :: r, m => match getK m d with
    | some (_, kvs) => match foldK t acc kvs with
      | some acc' => foldD t acc' r m
      | none => none
    | none => none
def pairD : List D → Option (List (D × D))
  | [] => some []
  | a :: b :: r => (pairD r).map ((a, b) :: ·)
  | _ => none
/-- x op= y -/
def iopD (base : Nat) (op : Operator) (x y : D) (m : MH) : R D := match op, x, y with
  | .Add, .ref i, y => match m[i]?, getW m y with
    | some (some (.lst ds)), some es => if ds.length + es.length ≤ SZ then (put base i (pures es) (.lst (ds ++ es)) m).bind fun _ m => .ok (.ref i) m else .bad
    | _, _ => .bad
  | .Add, .int i, .int j => .ok (.int (i + j)) m
  | .Sub, .int i, .int j => .ok (.int (i - j)) m
  | .Mult, .int i, .int j => if mulOk i j then .ok (.int (i * j)) m else .bad
  | .FloorDiv, .int i, .int j => if 0 < j ∧ natB 1073741823 j = true then .ok (.int (i / j)) m else .bad
  | .Mod, .int i, .int j => if 0 < j then .ok (.int (i % j)) m else .bad
  | .Add, .str a, .str b => if a.length + b.length ≤ SZ then .ok (.str (a ++ b)) m else .bad
  | _, _, _ => .bad

/-! ### loops -/
def forL (same : MH → Bool) (turn : D → Ev → MH → RS) : List D → Ev → MH → RS
  | [], ρ, m => if same m = true then .ok (.nx ρ) m else .bad
  | d :: ds, ρ, m => if same m = true then (match turn d ρ m with
    | .ok (.nx ρ') m' => forL same turn ds ρ' m'
    | .ok (.ct ρ') m' => forL same turn ds ρ' m'
    | .ok (.bk ρ') m' => .ok (.nx ρ') m'
    | .ok (.rt v) m' => .ok (.rt v) m'
    | .exc c fs ρ' m' => .exc c fs ρ' m'
    | .bad => .bad) else .bad
def whileL : Nat → (Ev → MH → R Bool) → (Ev → MH → RS) → Ev → MH → RS
  | 0, _, _, _, _ => .bad
  | n + 1, c, b, ρ, m => (c ρ m).st ρ fun k m1 => if k = true then (match b ρ m1 with
    | .ok (.nx ρ') m' => whileL n c b ρ' m'
    | .ok (.ct ρ') m' => whileL n c b ρ' m'
    | .ok (.bk ρ') m' => .ok (.nx ρ') m'
    | .ok (.rt v) m' => .ok (.rt v) m'
    | .exc c fs ρ' m' => .exc c fs ρ' m'
    | .bad => .bad) else .ok (.nx ρ) m1
/-- a comprehension's turns: what has been made is acc -/
def compL (same : MH → Bool) (turn : D → MH → R (Option D)) : List D → List D → MH → R (List D)
  | [], acc, m => if same m = true then .ok acc m else .bad
  | d :: ds, acc, m => if same m = true then ((turn d m).bind fun y m' => match y with
    | some v => if acc.length < SZ then compL same turn ds (acc ++ [v]) m' else .bad
    | none => compL same turn ds acc m') else .bad
def compL2 (same : MH → Bool) (turn : D → List D → MH → R (List D)) : List D → List D → MH → R (List D)
  | [], acc, m => if same m = true then .ok acc m else .bad
  | d :: ds, acc, m => if same m = true then ((turn d acc m).bind fun acc' m' => compL2 same turn ds acc' m') else .bad
def compK (t : Bool) (same : MH → Bool) (turn : D → MH → R (Option (D × D))) : List D → List (D × D) → MH → R (List (D × D))
  | [], acc, m => if same m = true then .ok acc m else .bad
  | d :: ds, acc, m => if same m = true then ((turn d m).bind fun y m' => match y with
    | some (k, v) => match keyFor t k with
      | some q => if acc.length < SZ then compK t same turn ds (dput acc k q v) m' else .bad
      | none => .bad
    | none => compK t same turn ds acc m') else .bad
def wipeE (ρ : Ev) : List Nat → Ev
  | [] => ρ
  | v :: vs => (wipeE ρ vs).set v none
/-! ### sameness -/
mutual
def sameD : D → D → Bool
  | .non, .non => true
  | .bl a, .bl b => a == b
  | .int a, .int b => decide (a = b)
  | .str a, .str b => decide (a = b)
  | .tup a, .tup b => sameDs a b
  | .lst a, .lst b => sameDs a b
  | .kls a, .kls b => sameDs a b
  | .dct t a, .dct u b => (t == u) && sameKV a b
  | .ins c a, .ins d b => decide (c = d) && sameF a b
  | .ref a, .ref b => decide (a = b)
  | _, _ => false
def sameDs : List D → List D → Bool
  | [], [] => true
  | a :: as, b :: bs => sameD a b && sameDs as bs
  | _, _ => false
def sameKV : List (D × D) → List (D × D) → Bool
  | [], [] => true
  | (a, c) :: as, (b, d) :: bs => sameD a b && (sameD c d && sameKV as bs)
  | _, _ => false
def sameF : Fs → Fs → Bool
  | [], [] => true
  | (f, c) :: as, (g, d) :: bs => decide (f = g) && (sameD c d && sameF as bs)
  | _, _ => false
end
mutual
theorem sameD_self : ∀ a : D, sameD a a = true
  | .non => by simp [sameD]
  | .bl _ => by simp [sameD]
  | .int _ => by simp [sameD]
  | .str _ => by simp [sameD]
  | .tup a => by simp [sameD, sameDs_self a]
  | .lst a => by simp [sameD, sameDs_self a]
  | .kls a => by simp [sameD, sameDs_self a]
  | .dct _ a => by simp [sameD, sameKV_self a]
  | .ins c a => by simp [sameD, sameF_self a]
  | .ref _ => by simp [sameD]
theorem sameDs_self : ∀ a : List D, sameDs a a = true
  | [] => by simp [sameDs]
  | a :: as => by simp [sameDs, sameD_self a, sameDs_self as]
theorem sameKV_self : ∀ a : List (D × D), sameKV a a = true
  | [] => by simp [sameKV]
  | (a, b) :: as => by simp [sameKV, sameD_self a, sameD_self b, sameKV_self as]
theorem sameF_self : ∀ a : Fs, sameF a a = true
  | [] => by simp [sameF]
  | (f, b) :: as => by simp [sameF, sameD_self b, sameF_self as]
end
mutual
theorem eq_of_sameD : ∀ a b : D, sameD a b = true → a = b
  | .non, b, h => by cases b <;> simp [sameD] at h <;> rfl
  | .bl _, b, h => by cases b <;> simp [sameD] at h; rw [h]
  | .int _, b, h => by cases b <;> simp [sameD] at h; rw [h]
  | .str _, b, h => by cases b <;> simp [sameD] at h; rw [h]
  | .tup a, b, h => by
    cases b <;> simp [sameD] at h
    rw [eq_of_sameDs a _ h]
  | .lst a, b, h => by
    cases b <;> simp [sameD] at h
    rw [eq_of_sameDs a _ h]
  | .kls a, b, h => by
    cases b <;> simp [sameD] at h
    rw [eq_of_sameDs a _ h]
  | .dct _ a, b, h => by
    cases b <;> simp [sameD] at h
    rw [h.1, eq_of_sameKV a _ h.2]
  | .ins c a, b, h => by
    cases b <;> simp [sameD] at h
    rw [h.1, eq_of_sameF a _ h.2]
  | .ref _, b, h => by cases b <;> simp [sameD] at h; rw [h]
theorem eq_of_sameDs : ∀ a b : List D, sameDs a b = true → a = b
  | [], b, h => by cases b <;> simp [sameDs] at h; rfl
  | a :: as, b, h => by
    cases b with
    | nil => simp [sameDs] at h
    | cons b bs =>
      simp [sameDs] at h
      rw [eq_of_sameD a b h.1, eq_of_sameDs as bs h.2]
theorem eq_of_sameKV : ∀ a b : List (D × D), sameKV a b = true → a = b
  | [], b, h => by cases b <;> simp [sameKV] at h; rfl
  | (a, c) :: as, b, h => by
    cases b with
    | nil => simp [sameKV] at h
    | cons b bs =>
      obtain ⟨b, d⟩ := b
      simp [sameKV] at h
      rw [eq_of_sameD a b h.1, eq_of_sameD c d h.2.1, eq_of_sameKV as bs h.2.2]
theorem eq_of_sameF : ∀ a b : Fs, sameF a b = true → a = b
  | [], b, h => by cases b <;> simp [sameF] at h; rfl
  | (f, c) :: as, b, h => by
    cases b with
    | nil => simp [sameF] at h
    | cons b bs =>
      obtain ⟨g, d⟩ := b
      simp [sameF] at h
      rw [h.1, eq_of_sameD c d h.2.1, eq_of_sameF as bs h.2.2]
end
def sameOb : Ob → Ob → Bool
  | .lst a, .lst b => sameDs a b
  | .dct t a, .dct u b => (t == u) && sameKV a b
  | .ins c a, .ins d b => decide (c = d) && sameF a b
  | _, _ => false
theorem sameOb_self (o : Ob) : sameOb o o = true := by cases o <;> simp [sameOb, sameDs_self, sameKV_self, sameF_self]
theorem eq_of_sameOb (a b : Ob) (h : sameOb a b = true) : a = b := by
  cases a <;> cases b <;> simp [sameOb] at h
  · rw [eq_of_sameDs _ _ h]
  · rw [h.1, eq_of_sameKV _ _ h.2]
  · rw [h.1, eq_of_sameF _ _ h.2]
/-- what is walked stands as it stood -/
def sameB (is : List (Nat × Ob)) (m : MH) : Bool := is.all fun p => match m[p.1]? with
  | some (some o) => sameOb p.2 o
  | _ => false
@[simp] theorem sameB_nil (m : MH) : sameB [] m = true := rfl

/-- behind a call: what the callee has made is forgotten, but for what it hands back -/
def gcR (b : Nat) (kp : Bool) : R D → R D
  | .ok d m => if kp = true then .ok d m else gc b d m
  | .exc c fs m => if belowF b fs = true then .exc c fs (m.take b) else .bad
  | .bad => .bad
/-- behind __init__ -/
def mkPost (fz : Bool) (b : Nat) (d : D) (m' : MH) : R D := match d with
  | .non => if fz = true then frz b (.ref b) m' else .ok (.ref b) m'
  | _ => .bad
/-- what an own operator may be given: an instance of the same class -/
def ownPre (f k : String) (x : D) (xs : List D) (m : MH) : Bool :=
  if f = "__add__" then (match xs with
    | [y] => (match getI m x, getI m y with
      | some (k1, _), some (k2, _) => k1 == k && k2 == k
      | _, _ => false)
    | _ => false)
  else true
/-- what an own special method may hand back -/
def ownPost (f : String) (d : D) (m : MH) : R D :=
  if f = "__bool__" then (match d with
    | .bl b => .ok (.bl b) m
    | _ => .bad)
  else if f = "__len__" then (match d with
    | .int i => if 0 ≤ i ∧ natB 9223372036854775807 i = true then .ok (.int i) m else .bad
    | _ => .bad)
  else .ok d m
mutual
/-- the slots that a target sets -/
def tnm : T → List Nat
  | .nm i => [i]
  | .tp ts => tnms ts
  | .sb _ _ => []
  | .at _ _ => []
def tnms : List T → List Nat
  | [] => []
  | t :: ts => tnm t ++ tnms ts
end
/-! ### the evaluator -/
abbrev It1 := List D × List (Nat × Ob)
mutual
def ev (c : EC) : Z → Ev → MH → R D
  | .var i, ρ, m => ofO (ρ[i]?.getD none) m
  | .lit d, _, m => .ok d m
  | .glo _ d, _, m => .ok d m
  | .tup es, ρ, m => (evs c es ρ m).bind mkT
  | .stup es b cs, ρ, m => (evs c es ρ m).bind fun xs m => (ev c b ρ m).bind fun y m => (evs c cs ρ m).bind fun zs m => match getS m y with
    | some ys => mkT (xs ++ (ys ++ zs)) m
    | none => .bad
  | .lst fz es, ρ, m => (evs c es ρ m).bind (mkL fz)
  | .dct fz t es, ρ, m => (evs c es ρ m).bind fun ds m => (ofO ((pairD ds).bind (foldK t [])) m).bind (mkK fz t)
  | .dst fz t es, ρ, m => (evs c es ρ m).bind fun ds m => (ofO (foldD t [] ds m) m).bind (mkK fz t)
  | .bin op fz a b, ρ, m => (ev c a ρ m).bind fun x m => (ev c b ρ m).bind fun y m => binD op fz x y m
  | .neg a, ρ, m => (ev c a ρ m).bind fun x m => match x with
    | .int i => .ok (.int (-i)) m
    | _ => .bad
  | .cmp op a b, ρ, m => (ev c a ρ m).bind fun x m => (ev c b ρ m).bind fun y m => (ofO (cmpD op x y m) m).bind fun k m => .ok (.bl k) m
  | .chn op op' a b d, ρ, m => (ev c a ρ m).bind fun x m => (ev c b ρ m).bind fun y m => (ofO (cmpD op x y m) m).bind fun k m =>
    if k = true then (ev c d ρ m).bind fun z m => (ofO (cmpD op' y z m) m).bind fun k m => .ok (.bl k) m else .ok (.bl false) m
  | .and a b, ρ, m => (ev c a ρ m).bind fun x m => (ofO (truth m x) m).bind fun k m => if k = true then ev c b ρ m else .ok x m
  | .or a b, ρ, m => (ev c a ρ m).bind fun x m => (ofO (truth m x) m).bind fun k m => if k = true then .ok x m else ev c b ρ m
  | .not a, ρ, m => (ev c a ρ m).bind fun x m => (ofO (truth m x) m).bind fun k m => .ok (.bl (!k)) m
  | .ite t a b, ρ, m => (ev c t ρ m).bind fun x m => (ofO (truth m x) m).bind fun k m => if k = true then ev c a ρ m else ev c b ρ m
  | .att a f, ρ, m => (ev c a ρ m).bind fun x m => match getI m x with
    | some (k, fs) => if c.fld k f = true then ofO (fs.lookup f) m else (match fs.lookup f with
      | none => ofO (c.con k f) m
      | some _ => .bad)
    | none => .bad
  | .xat f, _, m => ofO (c.xf.lookup f) m
  | .sub a i, ρ, m => (ev c a ρ m).bind fun x m => (ev c i ρ m).bind fun y m => ofO (subD x y m) m
  | .slc fz a lo hi, ρ, m => (ev c a ρ m).bind fun x m => (evO c lo ρ m).bind fun l m => (evO c hi ρ m).bind fun h m => slcD fz x l h m
  | .rev fz a, ρ, m => (ev c a ρ m).bind fun x m => match getL m x with
    | some ds => mkL fz ds.reverse m
    | none => .bad
  | .call kp f es, ρ, m => (evs c es ρ m).bind fun xs m => gcR m.length kp (c.call m.length f xs m)
  | .met kp f o es, ρ, m => (ev c o ρ m).bind fun x m => match getI m x with
    | some (k, fs) => match c.meth k f, fs.lookup f with
      | some g, none => (evs c es ρ m).bind fun xs m => gcR m.length kp (c.call m.length g (x :: xs) m)
      | _, _ => .bad
    | none => .bad
  | .own kp f o es, ρ, m => (ev c o ρ m).bind fun x m => match getI m x with
    | some (k, fs) => match c.meth k f, fs.lookup f with
      | some g, none => (evs c es ρ m).bind fun xs m => if ownPre f k x xs m = true then ((gcR m.length kp (c.call m.length g (x :: xs) m)).nox).bind (ownPost f) else .bad
      | _, _ => .bad
    | none => .bad
  | .wal, _, _ => .bad
  | .mk fz k es, ρ, m => (evs c es ρ m).bind fun xs m => match c.init k with
    | some g => (gcR m.length true (c.call m.length g (.ref m.length :: xs) (m ++ [some (.ins k [])]))).bind (mkPost fz m.length)
    | none => .bad
  | .blt b fz es, ρ, m => (evs c es ρ m).bind fun xs m => bltD b fz xs m
  | .bmt b fz o es, ρ, m => (ev c o ρ m).bind fun x m => if kindD m x = some (bmT b) then (evs c es ρ m).bind fun xs m => bmtD c.base b fz x xs m else .bad
  | .isi a ts, ρ, m => (ev c a ρ m).bind fun x m => (ofO (tyOf m x) m).bind fun t m => if knownT c.cls t = true then .ok (.bl (isTy c.sub t ts)) m else .bad
  | .lc fz own e (.mk t it ifs), ρ, m => (evI c it ρ m).bind fun (q : It1) m => (compL (sameB q.2) (fun d m => (asgT c t d (wipeE ρ own) m).bind fun ρ' m => (evTs c ifs ρ' m).bind fun k m =>
      if k = true then (ev c e ρ' m).bind fun y m => .ok (some y) m else .ok none m) q.1 [] m).nox.bind (mkL fz)
  | .lc2 fz own e (.mk t it ifs) (.mk t2 it2 ifs2), ρ, m => (evI c it ρ m).bind fun (q : It1) m => (compL2 (sameB q.2) (fun d acc m => (asgT c t d (wipeE ρ own) m).bind fun ρ' m => (evTs c ifs ρ' m).bind fun k m =>
      if k = true then (evI c it2 ρ' m).bind fun (q2 : It1) m => compL (sameB q2.2) (fun d m => (asgT c t2 d (wipeE ρ' (tnm t2)) m).bind fun ρ2 m => (evTs c ifs2 ρ2 m).bind fun k m =>
        if k = true then (ev c e ρ2 m).bind fun y m => .ok (some y) m else .ok none m) q2.1 acc m
      else .ok acc m) q.1 [] m).nox.bind (mkL fz)
  | .dc fz kt own ke e (.mk t it ifs), ρ, m => (evI c it ρ m).bind fun (q : It1) m => (compK kt (sameB q.2) (fun d m => (asgT c t d (wipeE ρ own) m).bind fun ρ' m => (evTs c ifs ρ' m).bind fun k m =>
      if k = true then (ev c ke ρ' m).bind fun x m => (ev c e ρ' m).bind fun y m => .ok (some (x, y)) m else .ok none m) q.1 [] m).nox.bind (mkK fz kt)
def evO (c : EC) : Option Z → Ev → MH → R (Option D)
  | none, _, m => .ok none m
  | some e, ρ, m => (ev c e ρ m).bind fun x m => match x with
    | .int i => .ok (some (.int i)) m
    | _ => .bad
def evs (c : EC) : List Z → Ev → MH → R (List D)
  | [], _, m => .ok [] m
  | e :: es, ρ, m => (ev c e ρ m).bind fun x m => (evs c es ρ m).bind fun xs m => .ok (x :: xs) m
def evTs (c : EC) : List Z → Ev → MH → R Bool
  | [], _, m => .ok true m
  | e :: es, ρ, m => (ev c e ρ m).bind fun x m => (ofO (truth m x) m).bind fun k m => if k = true then evTs c es ρ m else .ok false m
def evI (c : EC) : It → Ev → MH → R It1
  | .seq e, ρ, m => (ev c e ρ m).bind fun x m => (ofO (seqD m x) m).bind fun ds m => .ok (ds, lockOf m x) m
  | .rng es, ρ, m => (evs c es ρ m).bind fun xs m => (ofO (rngD xs) m).bind fun ds m => .ok (ds, []) m
  | .enu e, ρ, m => (ev c e ρ m).bind fun x m => (ofO (getL m x) m).bind fun ds m => .ok (enumD 0 ds, lockOf m x) m
  | .zip a b, ρ, m => (ev c a ρ m).bind fun x m => (ev c b ρ m).bind fun y m => (ofO (zip2D m x y) m).bind fun ds m => .ok (ds, lockOf m x ++ lockOf m y) m
  | .itm e, ρ, m => (ev c e ρ m).bind fun x m => match x with
    | .dct false kvs => .ok (kvs.map (fun p => .tup [p.1, p.2]), []) m
    | _ => .bad
  | .val e, ρ, m => (ev c e ρ m).bind fun x m => match x with
    | .dct false kvs => .ok (kvs.map (·.2), []) m
    | _ => .bad
def asgT (c : EC) : T → D → Ev → MH → R Ev
  | .nm i, d, ρ, m => .ok (ρ.set i (some d)) m
  | .tp ts, d, ρ, m => match d with
    | .tup ds => if ds.length = ts.length then (asgTs c ts ds ρ m).nox else .bad
    | _ => .bad
  | .sb o i, d, ρ, m => (ev c o ρ m).bind fun x m => (ev c i ρ m).bind fun y m => (setD c.base x y d m).bind fun _ m => .ok ρ m
  | .at o f, d, ρ, m => (ev c o ρ m).bind fun x m => (setA c.base c.fld x f d m).bind fun _ m => .ok ρ m
def asgTs (c : EC) : List T → List D → Ev → MH → R Ev
  | [], [], ρ, m => .ok ρ m
  | t :: ts, d :: ds, ρ, m => (asgT c t d ρ m).bind fun ρ m => asgTs c ts ds ρ m
  | _, _, _, _ => .bad
end
mutual
def ex (c : EC) : S → Ev → MH → RS
  | .wal, _, _ => .bad
  | .exp e, ρ, m => (ev c e ρ m).st ρ fun _ m => .ok (.nx ρ) m
  | .asg t e, ρ, m => (ev c e ρ m).st ρ fun x m => (asgT c t x ρ m).st ρ fun ρ' m => .ok (.nx ρ') m
  | .aug i op e, ρ, m => (ofO (ρ[i]?.getD none) m).st ρ fun x m => (ev c e ρ m).st ρ fun y m => (iopD c.base op x y m).st ρ fun z m => .ok (.nx (ρ.set i (some z))) m
  | .augS o i op e, ρ, m => (ev c o ρ m).st ρ fun x m => (ev c i ρ m).st ρ fun k m => (ofO (subD x k m) m).st ρ fun old m => (ev c e ρ m).st ρ fun y m =>
    (iopD c.base op old y m).st ρ fun z m => (setD c.base x k z m).st ρ fun _ m => .ok (.nx ρ) m
  | .augA o f op e, ρ, m => (ev c o ρ m).st ρ fun x m => (match getI m x with
    | some (k, fs) => if c.fld k f = true then (ofO (fs.lookup f) m).st ρ fun old m => (ev c e ρ m).st ρ fun y m => (iopD c.base op old y m).st ρ fun z m => (match getI m x with
      | some (k2, _) => if k2 = k then (setA c.base c.fld x f z m).st ρ fun _ m => .ok (.nx ρ) m else .bad
      | none => .bad) else .bad
    | none => .bad)
  | .ret fz e, ρ, m => (ev c e ρ m).st ρ fun x m => if fz = true then (frz c.base x m).st ρ fun x m => .ok (.rt x) m else .ok (.rt x) m
  | .ifs t a b, ρ, m => (ev c t ρ m).st ρ fun x m => (ofO (truth m x) m).st ρ fun k m => if k = true then exs c a ρ m else exs c b ρ m
  | .whl t b, ρ, m => whileL c.lim (fun ρ m => (ev c t ρ m).bind fun x m => ofO (truth m x) m) (fun ρ m => exs c b ρ m) ρ m
  | .for t it b, ρ, m => (evI c it ρ m).st ρ fun (q : It1) m => forL (sameB q.2) (fun d ρ m => (asgT c t d ρ m).st ρ fun ρ m => exs c b ρ m) q.1 ρ m
  | .rais k es, ρ, m => (evs c es ρ m).st ρ fun xs m => match c.xfs k with
    | some fs => if fs.length = 0 ∨ fs.length = xs.length then .exc k (fs.zip xs) ρ m else .bad
    | none => .bad
  | .try b hs, ρ, m => match exs c b ρ m with
    | .exc k fs ρ' m' => if (c.xfs k).isSome = true then (if fs.isEmpty = true then exH c k [] hs ρ' m' else .bad) else .bad
    | r => r
  | .frz i, ρ, m => match ρ[i]?.getD none with
    | some (.ref j) => if c.base ≤ j then (match m[j]? with
      | some (some (.lst ds)) => .ok (.nx (ρ.set i (some (.lst ds)))) (m.set j none)
      | some (some (.dct t kvs)) => .ok (.nx (ρ.set i (some (.dct t kvs)))) (m.set j none)
      | _ => .bad) else .bad
    | _ => .bad
  | .pass, ρ, m => .ok (.nx ρ) m
  | .brk, ρ, m => .ok (.bk ρ) m
  | .cnt, ρ, m => .ok (.ct ρ) m
def exs (c : EC) : List S → Ev → MH → RS
  | [], ρ, m => .ok (.nx ρ) m
  | s :: ss, ρ, m => match ex c s ρ m with
    | .ok (.nx ρ') m' => exs c ss ρ' m'
    | r => r
def exH (c : EC) (k : String) (fs : Fs) : List H → Ev → MH → RS
  | [], ρ, m => .exc k fs ρ m
  | .mk cs i b :: hs, ρ, m => if isTy c.sub k cs then (exs { c with xf := fs } b (clrI i ρ) m).clr i else exH c k fs hs ρ m
end

/-! ### a program -/
/-- a class: its bases (itself first), its methods' names with the defs, its fields, what is the class's own -/
structure ZCls where
  bases : List String
  meths : List (String × String)
  flds : List String
  cons : List (String × D)
structure ZP where
  funs : List (String × ZFun)
  /-- the defs that are called by their names -/
  gl : List String
  cls : List (String × ZCls)
  /-- the errors: name, bases, fields -/
  xs : List (String × List String × List String)
  /-- the module's constants -/
  gv : List (String × D)
  lim : Nat
  /-- defs without a return -/
  ini : List String
def bindA (f : ZFun) (xs : List D) : Option (List D) :=
  if xs.length ≤ f.np then (if f.np ≤ xs.length + f.dfl.length then some (xs ++ f.dfl.drop (f.dfl.length - (f.np - xs.length)) ++ (if f.star then [.tup []] else [])) else none)
  else if f.star then some (xs.take f.np ++ [.tup (xs.drop f.np)]) else none
def ecOf (P : ZP) (base : Nat) (call : Nat → String → List D → MH → R D) : EC where
  base := base
  lim := P.lim
  sub := fun k b => match P.cls.lookup k with
    | some q => q.bases.contains b
    | none => match P.xs.lookup k with
      | some (bs, _) => bs.contains b
      | none => false
  cls := fun k => (P.cls.lookup k).isSome
  meth := fun k f => (P.cls.lookup k).bind fun q => q.meths.lookup f
  init := fun k => (P.cls.lookup k).bind fun q => q.meths.lookup "__init__"
  xfs := fun k => (P.xs.lookup k).map (·.2)
  fld := fun k f => match P.cls.lookup k with
    | some q => q.flds.contains f
    | none => false
  con := fun k f => (P.cls.lookup k).bind fun q => q.cons.lookup f
  call := call
  xf := []
def callF (P : ZP) : Nat → Nat → String → List D → MH → R D
  | 0, _, _, _, _ => .bad
  | n + 1, base, f, xs, m => match P.funs.lookup f with
    | none => .bad
    | some fd => match bindA fd xs with
      | none => .bad
      | some ys => match exs (ecOf P base (callF P n)) fd.body (ys.map some ++ List.replicate (fd.ns - ys.length) none) m with
        | .ok (.rt d) m' => .ok d m'
        | .ok (.nx _) m' => .ok .non m'
        | .exc c fs _ m' => .exc c fs m'
        | _ => .bad
end Zi
set_option maxHeartbeats 4000000
/-! Z1: what the model's data mean in the layer's heap. -/
namespace Zi
open PySem PySem.Spec PyProof.Rows L2

/-! ### worlds -/
def Sub (F F' : Hp) : Prop := ∀ a o, F a = some o → F' a = some o
theorem Sub.refl (F : Hp) : Sub F F := fun _ _ h => h
theorem Sub.trans {F G H : Hp} (a : Sub F G) (b : Sub G H) : Sub F H := fun x o h => b x o (a x o h)
theorem Sub.seqL {K : PySem.W.Frag} {F F' : Hp} {a : Addr} {xs : List V} (e : Sub F F') (h : SqL K F a xs) : SqL K F' a xs := Same.seq e h
theorem Sub.seqT {K : PySem.W.Frag} {F F' : Hp} {a : Addr} {xs : List V} (e : Sub F F') (h : SqT K F a xs) : SqT K F' a xs := by
  rcases h with (h | ⟨o, h⟩) | h
  · exact .inl (.inl (e _ _ h))
  · exact .inl (.inr ⟨o, e _ _ h⟩)
  · exact .inr h
/-- the world grows: numbers keep their addresses, what is frozen stays -/
structure Ext (ι : List Addr) (F : Hp) (ι' : List Addr) (F' : Hp) : Prop where
  pre : ∃ t, ι' = ι ++ t
  sub : Sub F F'
theorem Ext.refl (ι : List Addr) (F : Hp) : Ext ι F ι F := ⟨⟨[], by simp⟩, Sub.refl F⟩
theorem Ext.trans {ι ι1 ι2 : List Addr} {F F1 F2 : Hp} (a : Ext ι F ι1 F1) (b : Ext ι1 F1 ι2 F2) : Ext ι F ι2 F2 := by
  obtain ⟨t, rfl⟩ := a.pre
  obtain ⟨u, rfl⟩ := b.pre
  exact ⟨⟨t ++ u, by simp⟩, a.sub.trans b.sub⟩
theorem Ext.get {ι ι' : List Addr} {F F' : Hp} (e : Ext ι F ι' F') {i : Nat} {a : Addr} (h : ι[i]? = some a) : ι'[i]? = some a := by
  obtain ⟨t, rfl⟩ := e.pre
  rw [List.getElem?_append_left (List.getElem?_eq_some_iff.mp h).1]
  exact h

/-! ### what a value means -/
/-- a key of a dict with ints and texts as keys -/
def kD : Key → D
  | .inl i => .int i
  | .inr x => .str x
structure Gl0 where
  w : World
  K : PySem.W.Frag
  ca : String → Addr
mutual
def toN : K2 → NestedKey
  | .none => .none
  | .num i => .num i
  | .text x => .text x
  | .tup ks => .tup (toNs ks)
  | .lst _ => .none
def toNs : List K2 → List NestedKey
  | [] => []
  | k :: ks => toN k :: toNs ks
end
/-- a dict whose keys are tuples: keys, their tuples' addresses, values -/
def tP (w : World) (a : Addr) (es : List (NestedKey × Addr × V)) (h : Heap) : Prop := es.length ≤ sizeLine ∧ (a == sysModules) = false ∧
  ∃ vs : List (NestedKey × Addr × Value), Paired (fun (p : NestedKey × Addr × V) (q : NestedKey × Addr × Value) => p.1 = q.1 ∧ p.2.1 = q.2.1 ∧ RelV p.2.2 q.2.2) es vs ∧
    ∃ o en ep, h.get? a = some o ∧ o.ExactDict ∧ o.data = .dict en ep ∧ en.toList = vs.map (fun x => (⟨x.1.hash w, .ref x.2.1, x.2.2⟩ : DictEntry)) ∧ (vs.map (·.1)).Nodup
def tHO (w : World) (a : Addr) (es : List (NestedKey × Addr × V)) : HO := .ext (tP w a es)
section
variable (Γ : Gl0) (ι : List Addr) (F : Hp)
mutual
def Den : D → V → Prop
  | .non, v => v = .non
  | .bl b, v => v = .bl b
  | .int i, v => v = .int i
  | .str s, v => v = .str s
  | .tup ds, v => ∃ a vs, v = .ref a ∧ SqT Γ.K F a vs ∧ Dens ds vs
  | .lst ds, v => ∃ a vs, v = .ref a ∧ F a = some (.lst vs) ∧ Dens ds vs
  | .kls ds, v => ∃ a vs, v = .ref a ∧ SqL Γ.K F a vs ∧ Dens ds vs
  | .dct t kvs, v => ∃ a, v = .ref a ∧ ((t = false ∧ ∃ o es, F a = some (.frz o (.dK es)) ∧ DenK kvs es) ∨ (t = true ∧ ∃ o es, F a = some (.frz o (tHO Γ.w a es)) ∧ DenT kvs es))
  | .ins c fs, v => ∃ a dx vs, v = .ref a ∧ F a = some (.ins (Γ.ca c) dx vs) ∧ DenF fs vs
  | .ref i, v => ∃ a, v = .ref a ∧ ι[i]? = some a
def Dens : List D → List V → Prop
  | [], vs => vs = []
  | d :: ds, vs => ∃ v r, vs = v :: r ∧ Den d v ∧ Dens ds r
def DenK : List (D × D) → List (Key × V) → Prop
  | [], es => es = []
  | (a, b) :: r, es => ∃ k v es', es = (k, v) :: es' ∧ a = kD k ∧ Den b v ∧ DenK r es'
def DenT : List (D × D) → List (NestedKey × Addr × V) → Prop
  | [], es => es = []
  | (a, b) :: r, es => ∃ k p v es', es = (k, p, v) :: es' ∧ (∃ q, keyOf a = some (.tup q) ∧ k = .tup (toNs q)) ∧ Den a (.ref p) ∧ Den b v ∧ DenT r es'
def DenF : Fs → List (Str × V) → Prop
  | [], es => es = []
  | (f, b) :: r, es => ∃ v es', (es = (Str.ofString f, v) :: es' ∧ asc f = true) ∧ Den b v ∧ DenF r es'
end
/-- what may be changed -/
def DctDen (a : Addr) (t : Bool) (kvs : List (D × D)) (o : HO) : Prop := (t = false ∧ ∃ es, o = .dK es ∧ DenK Γ ι F kvs es) ∨ (t = true ∧ ∃ es, o = tHO Γ.w a es ∧ DenT Γ ι F kvs es)
def ObDen (a : Addr) : Ob → HO → Prop
  | .lst ds, o => ∃ vs, o = .lst vs ∧ Dens Γ ι F ds vs
  | .dct t kvs, o => DctDen Γ ι F a t kvs o
  | .ins c fs, o => ∃ dx vs, o = .ins (Γ.ca c) dx vs ∧ DenF Γ ι F fs vs
end
section
variable {Γ : Gl0} {ι ι' : List Addr} {F F' : Hp}
mutual
theorem Den.mono (e : Ext ι F ι' F') : ∀ (d : D) (v : V), Den Γ ι F d v → Den Γ ι' F' d v
  | .non, _, h => h
  | .bl _, _, h => h
  | .int _, _, h => h
  | .str _, _, h => h
  | .tup ds, _, ⟨a, vs, h1, h2, h3⟩ => ⟨a, vs, h1, e.sub.seqT h2, Dens.mono e ds vs h3⟩
  | .lst ds, _, ⟨a, vs, h1, h2, h3⟩ => ⟨a, vs, h1, e.sub _ _ h2, Dens.mono e ds vs h3⟩
  | .kls ds, _, ⟨a, vs, h1, h2, h3⟩ => ⟨a, vs, h1, e.sub.seqL h2, Dens.mono e ds vs h3⟩
  | .dct t kvs, _, ⟨a, h1, h3⟩ => ⟨a, h1, h3.imp (fun ⟨y, o, es, q, z⟩ => ⟨y, o, es, e.sub _ _ q, DenK.mono e kvs es z⟩) fun ⟨y, o, es, q, z⟩ => ⟨y, o, es, e.sub _ _ q, DenT.mono e kvs es z⟩⟩
  | .ins c fs, _, ⟨a, dx, vs, h1, h2, h3⟩ => ⟨a, dx, vs, h1, e.sub _ _ h2, DenF.mono e fs vs h3⟩
  | .ref i, _, ⟨a, h1, h2⟩ => ⟨a, h1, e.get h2⟩
theorem Dens.mono (e : Ext ι F ι' F') : ∀ (ds : List D) (vs : List V), Dens Γ ι F ds vs → Dens Γ ι' F' ds vs
  | [], _, h => h
  | d :: ds, _, ⟨v, r, h1, h2, h3⟩ => ⟨v, r, h1, Den.mono e d v h2, Dens.mono e ds r h3⟩
theorem DenK.mono (e : Ext ι F ι' F') : ∀ (kvs : List (D × D)) (es : List (Key × V)), DenK Γ ι F kvs es → DenK Γ ι' F' kvs es
  | [], _, h => h
  | (a, b) :: r, _, ⟨k, v, es', h1, h2, h3, h4⟩ => ⟨k, v, es', h1, h2, Den.mono e b v h3, DenK.mono e r es' h4⟩
theorem DenT.mono (e : Ext ι F ι' F') : ∀ (kvs : List (D × D)) (es : List (NestedKey × Addr × V)), DenT Γ ι F kvs es → DenT Γ ι' F' kvs es
  | [], _, h => h
  | (a, b) :: r, _, ⟨k, p, v, es', h1, h2, h3, h4, h5⟩ => ⟨k, p, v, es', h1, h2, Den.mono e a _ h3, Den.mono e b v h4, DenT.mono e r es' h5⟩
theorem DenF.mono (e : Ext ι F ι' F') : ∀ (fs : Fs) (es : List (Str × V)), DenF Γ ι F fs es → DenF Γ ι' F' fs es
  | [], _, h => h
  | (f, b) :: r, _, ⟨v, es', h1, h2, h3⟩ => ⟨v, es', h1, Den.mono e b v h2, DenF.mono e r es' h3⟩
end
theorem DctDen.mono (e : Ext ι F ι' F') {a : Addr} {t : Bool} {kvs : List (D × D)} {o : HO} (h : DctDen Γ ι F a t kvs o) : DctDen Γ ι' F' a t kvs o :=
  h.imp (fun ⟨y, es, q, z⟩ => ⟨y, es, q, DenK.mono e kvs es z⟩) fun ⟨y, es, q, z⟩ => ⟨y, es, q, DenT.mono e kvs es z⟩
theorem ObDen.mono (e : Ext ι F ι' F') {x : Addr} : ∀ (o : Ob) (ho : HO), ObDen Γ ι F x o ho → ObDen Γ ι' F' x o ho
  | .lst ds, _, ⟨vs, h1, h2⟩ => ⟨vs, h1, Dens.mono e ds vs h2⟩
  | .dct _ kvs, _, h => DctDen.mono e h
  | .ins c fs, _, ⟨dx, vs, h1, h2⟩ => ⟨dx, vs, h1, DenF.mono e fs vs h2⟩
/-! what has no number from n on means the same with the first n numbers -/
mutual
theorem Den.cut {n : Nat} (hn : n ≤ ι.length) : ∀ (d : D) (v : V), below n d = true → Den Γ ι F d v → Den Γ (ι.take n) F d v
  | .non, _, _, h => h
  | .bl _, _, _, h => h
  | .int _, _, _, h => h
  | .str _, _, _, h => h
  | .tup ds, _, b, ⟨a, vs, h1, h2, h3⟩ => ⟨a, vs, h1, h2, Dens.cut hn ds vs b h3⟩
  | .lst ds, _, b, ⟨a, vs, h1, h2, h3⟩ => ⟨a, vs, h1, h2, Dens.cut hn ds vs b h3⟩
  | .kls ds, _, b, ⟨a, vs, h1, h2, h3⟩ => ⟨a, vs, h1, h2, Dens.cut hn ds vs b h3⟩
  | .dct _ kvs, _, b, ⟨a, h1, h3⟩ => ⟨a, h1, h3.imp (fun ⟨y, o, es, q, z⟩ => ⟨y, o, es, q, DenK.cut hn kvs es b z⟩) fun ⟨y, o, es, q, z⟩ => ⟨y, o, es, q, DenT.cut hn kvs es b z⟩⟩
  | .ins c fs, _, b, ⟨a, dx, vs, h1, h2, h3⟩ => ⟨a, dx, vs, h1, h2, DenF.cut hn fs vs b h3⟩
  | .ref i, _, b, ⟨a, h1, h2⟩ => ⟨a, h1, by
    have hi : i < n := of_decide_eq_true b
    rw [List.getElem?_take_of_lt hi]
    exact h2⟩
theorem Dens.cut {n : Nat} (hn : n ≤ ι.length) : ∀ (ds : List D) (vs : List V), belows n ds = true → Dens Γ ι F ds vs → Dens Γ (ι.take n) F ds vs
  | [], _, _, h => h
  | d :: ds, _, b, ⟨v, r, h1, h2, h3⟩ => by
    have b' : (below n d && belows n ds) = true := b
    rw [Bool.and_eq_true] at b'
    exact ⟨v, r, h1, Den.cut hn d v b'.1 h2, Dens.cut hn ds r b'.2 h3⟩
theorem DenK.cut {n : Nat} (hn : n ≤ ι.length) : ∀ (kvs : List (D × D)) (es : List (Key × V)), belowKV n kvs = true → DenK Γ ι F kvs es → DenK Γ (ι.take n) F kvs es
  | [], _, _, h => h
  | (a, b) :: r, _, bb, ⟨k, v, es', h1, h2, h3, h4⟩ => by
    have b' : (below n a && (below n b && belowKV n r)) = true := bb
    rw [Bool.and_eq_true, Bool.and_eq_true] at b'
    exact ⟨k, v, es', h1, h2, Den.cut hn b v b'.2.1 h3, DenK.cut hn r es' b'.2.2 h4⟩
theorem DenT.cut {n : Nat} (hn : n ≤ ι.length) : ∀ (kvs : List (D × D)) (es : List (NestedKey × Addr × V)), belowKV n kvs = true → DenT Γ ι F kvs es → DenT Γ (ι.take n) F kvs es
  | [], _, _, h => h
  | (a, b) :: r, _, bb, ⟨k, p, v, es', h1, h2, h3, h4, h5⟩ => by
    have b' : (below n a && (below n b && belowKV n r)) = true := bb
    rw [Bool.and_eq_true, Bool.and_eq_true] at b'
    exact ⟨k, p, v, es', h1, h2, Den.cut hn a _ b'.1 h3, Den.cut hn b v b'.2.1 h4, DenT.cut hn r es' b'.2.2 h5⟩
theorem DenF.cut {n : Nat} (hn : n ≤ ι.length) : ∀ (fs : Fs) (es : List (Str × V)), belowF n fs = true → DenF Γ ι F fs es → DenF Γ (ι.take n) F fs es
  | [], _, _, h => h
  | (f, b) :: r, _, bb, ⟨v, es', h1, h2, h3⟩ => by
    have b' : (below n b && belowF n r) = true := bb
    rw [Bool.and_eq_true] at b'
    exact ⟨v, es', h1, Den.cut hn b v b'.1 h2, DenF.cut hn r es' b'.2 h3⟩
end
/-! all numbers are known -/
mutual
theorem Den.below : ∀ (d : D) (v : V), Den Γ ι F d v → Zi.below ι.length d = true
  | .non, _, _ => rfl
  | .bl _, _, _ => rfl
  | .int _, _, _ => rfl
  | .str _, _, _ => rfl
  | .tup ds, _, ⟨a, vs, h1, h2, h3⟩ => Dens.below ds vs h3
  | .lst ds, _, ⟨a, vs, h1, h2, h3⟩ => Dens.below ds vs h3
  | .kls ds, _, ⟨a, vs, h1, h2, h3⟩ => Dens.below ds vs h3
  | .dct _ kvs, _, ⟨a, h1, h3⟩ => h3.elim (fun ⟨_, _, es, _, z⟩ => DenK.below kvs es z) fun ⟨_, _, es, _, z⟩ => DenT.below kvs es z
  | .ins c fs, _, ⟨a, dx, vs, h1, h2, h3⟩ => DenF.below fs vs h3
  | .ref i, _, ⟨a, h1, h2⟩ => decide_eq_true (List.getElem?_eq_some_iff.mp h2).1
theorem Dens.below : ∀ (ds : List D) (vs : List V), Dens Γ ι F ds vs → Zi.belows ι.length ds = true
  | [], _, _ => rfl
  | d :: ds, _, ⟨v, r, h1, h2, h3⟩ => by
    show (Zi.below ι.length d && Zi.belows ι.length ds) = true
    rw [Den.below d v h2, Dens.below ds r h3]; rfl
theorem DenK.below : ∀ (kvs : List (D × D)) (es : List (Key × V)), DenK Γ ι F kvs es → Zi.belowKV ι.length kvs = true
  | [], _, _ => rfl
  | (a, b) :: r, _, ⟨k, v, es', h1, h2, h3, h4⟩ => by
    show (Zi.below ι.length a && (Zi.below ι.length b && Zi.belowKV ι.length r)) = true
    have ha : Zi.below ι.length a = true := by rw [h2]; cases k <;> rfl
    rw [ha, Den.below b v h3, DenK.below r es' h4]; rfl
theorem DenT.below : ∀ (kvs : List (D × D)) (es : List (NestedKey × Addr × V)), DenT Γ ι F kvs es → Zi.belowKV ι.length kvs = true
  | [], _, _ => rfl
  | (a, b) :: r, _, ⟨k, p, v, es', h1, h2, h3, h4, h5⟩ => by
    show (Zi.below ι.length a && (Zi.below ι.length b && Zi.belowKV ι.length r)) = true
    rw [Den.below a _ h3, Den.below b v h4, DenT.below r es' h5]; rfl
theorem DenF.below : ∀ (fs : Fs) (es : List (Str × V)), DenF Γ ι F fs es → Zi.belowF ι.length fs = true
  | [], _, _ => rfl
  | (f, b) :: r, _, ⟨v, es', h1, h2, h3⟩ => by
    show (Zi.below ι.length b && Zi.belowF ι.length r) = true
    rw [Den.below b v h2, DenF.below r es' h3]; rfl
end
theorem Dens.length : ∀ {ds : List D} {vs : List V}, Dens Γ ι F ds vs → ds.length = vs.length
  | [], _, h => by rw [show _ = [] from h]; rfl
  | d :: ds, _, ⟨v, r, h1, h2, h3⟩ => by rw [h1, List.length_cons, List.length_cons, Dens.length h3]
theorem Dens.get : ∀ {ds : List D} {vs : List V} {i : Nat} {d : D}, Dens Γ ι F ds vs → ds[i]? = some d → ∃ v, vs[i]? = some v ∧ Den Γ ι F d v
  | [], _, _, _, _, h => by simp at h
  | e :: ds, _, 0, d, ⟨v, r, h1, h2, h3⟩, h => by
    simp at h; subst h
    exact ⟨v, by rw [h1]; rfl, h2⟩
  | e :: ds, _, i + 1, d, ⟨v, r, h1, h2, h3⟩, h => by
    obtain ⟨w, hw, hd⟩ := Dens.get (i := i) h3 (by simpa using h)
    exact ⟨w, by rw [h1]; simpa using hw, hd⟩
theorem Dens.append : ∀ {ds es : List D} {vs us : List V}, Dens Γ ι F ds vs → Dens Γ ι F es us → Dens Γ ι F (ds ++ es) (vs ++ us)
  | [], _, _, _, h, g => by rw [show _ = [] from h]; exact g
  | d :: ds, es, _, us, ⟨v, r, h1, h2, h3⟩, g => by
    rw [h1]
    exact ⟨v, r ++ us, rfl, h2, Dens.append h3 g⟩
theorem Dens.one {d : D} {v : V} (h : Den Γ ι F d v) : Dens Γ ι F [d] [v] := ⟨v, [], rfl, h, rfl⟩
theorem Dens.nil : Dens Γ ι F [] [] := rfl
theorem Dens.cons {d : D} {v : V} {ds : List D} {vs : List V} (h : Den Γ ι F d v) (g : Dens Γ ι F ds vs) : Dens Γ ι F (d :: ds) (v :: vs) := ⟨v, vs, rfl, h, g⟩
theorem Dens.take : ∀ {ds : List D} {vs : List V} (n : Nat), Dens Γ ι F ds vs → Dens Γ ι F (ds.take n) (vs.take n)
  | _, _, 0, _ => rfl
  | [], _, n + 1, h => by rw [show _ = [] from h]; rfl
  | d :: ds, _, n + 1, ⟨v, r, h1, h2, h3⟩ => by rw [h1]; exact ⟨v, r.take n, rfl, h2, Dens.take n h3⟩
theorem Dens.drop : ∀ {ds : List D} {vs : List V} (n : Nat), Dens Γ ι F ds vs → Dens Γ ι F (ds.drop n) (vs.drop n)
  | _, _, 0, h => h
  | [], _, n + 1, h => by rw [show _ = [] from h]; rfl
  | d :: ds, _, n + 1, ⟨v, r, h1, h2, h3⟩ => by rw [h1]; exact Dens.drop n h3
theorem Dens.set : ∀ {ds : List D} {vs : List V} {d : D} {v : V} (n : Nat), Dens Γ ι F ds vs → Den Γ ι F d v → Dens Γ ι F (ds.set n d) (vs.set n v)
  | [], _, _, _, _, h, _ => by rw [show _ = [] from h]; rfl
  | e :: ds, _, d, v, 0, ⟨u, r, h1, h2, h3⟩, g => by rw [h1]; exact ⟨v, r, rfl, g, h3⟩
  | e :: ds, _, d, v, n + 1, ⟨u, r, h1, h2, h3⟩, g => by rw [h1]; exact ⟨u, r.set n v, rfl, h2, Dens.set n h3 g⟩
theorem Dens.reverse : ∀ {ds : List D} {vs : List V}, Dens Γ ι F ds vs → Dens Γ ι F ds.reverse vs.reverse
  | [], _, h => by rw [show _ = [] from h]; rfl
  | d :: ds, _, ⟨v, r, h1, h2, h3⟩ => by
    rw [h1, List.reverse_cons, List.reverse_cons]
    exact Dens.append (Dens.reverse h3) (Dens.one h2)
end

/-! ### the heap -/
def obBelow (n : Nat) : Ob → Bool
  | .lst ds => belows n ds
  | .dct _ kvs => belowKV n kvs
  | .ins _ fs => belowF n fs
/-- base: where the frame's own numbers begin; bs: where those of all frames do; G: what else is to stay; F: what is frozen -/
structure HR (Γ : Gl0) (base : Nat) (bs : List Nat) (G : Hp) (ι : List Addr) (F : Hp) (m : MH) (H : Hp) : Prop where
  g : Sub G H
  f : Sub F H
  fg : ∀ a o, G a = some o → F a = none
  len : ι.length = m.length
  live : ∀ (i : Nat) (a : Addr) (o : Ob), ι[i]? = some a → m[i]? = some (some o) → F a = none ∧ G a = none ∧ ∃ ho, H a = some ho ∧ ObDen Γ ι F a o ho
  uniq : ∀ (i j : Nat) (a : Addr) (o u : Ob), ι[i]? = some a → ι[j]? = some a → m[i]? = some (some o) → m[j]? = some (some u) → i = j
  top : base ∈ bs ∧ ∀ b ∈ bs, b ≤ base ∧ b ≤ m.length
  bel : ∀ b ∈ bs, ∀ (i : Nat) (o : Ob), i < b → m[i]? = some (some o) → obBelow b o = true

/-! ### what is wanted behind a piece of the model -/
structure Ct where
  Γ : Gl0
  base : Nat
  bs : List Nat
  G : Hp
abbrev XR := List Addr → Hp → String → Fs → Value → Option Addr → Hp → Prop
/-- how an exception lies -/
def XD (Γ : Gl0) (ι : List Addr) (F : Hp) (c : String) (fs : Fs) (cls : Value) (d : Option Addr) (H : Hp) : Prop :=
  cls = .ref (Γ.ca c) ∧ (fs = [] ∨ ∃ dx vs, d = some dx ∧ H dx = some (.xd vs) ∧ DenF Γ ι F fs vs)
/-- the result r of a piece that begins in the world ι, F: with what is wanted of it, Q, and of exceptions, E -/
def Pst {α β : Type} (C : Ct) (rel : List Addr → Hp → α → β → Prop) (ι : List Addr) (F : Hp) (Q : β → Hp → Prop) (E : XK) (r : R α) : Prop := match r with
  | .ok d m' => ∀ v ι' F' H', Ext ι F ι' F' → HR C.Γ C.base C.bs C.G ι' F' m' H' → rel ι' F' d v → Q v H'
  | .exc c fs m' => ∀ ι' F' H' cls d, Ext ι F ι' F' → HR C.Γ C.base C.bs C.G ι' F' m' H' → XD C.Γ ι' F' c fs cls d H' → E cls d H'
  | .bad => False
section
variable {α β γ δ : Type} {C : Ct} {rel : List Addr → Hp → α → β → Prop} {rel2 : List Addr → Hp → γ → δ → Prop} {ι ι1 : List Addr} {F F1 : Hp} {Q Q' : β → Hp → Prop} {E : XK} {r : R α}
theorem Pst.world (e : Ext ι F ι1 F1) (h : Pst C rel ι F Q E r) : Pst C rel ι1 F1 Q E r := by
  cases r with
  | ok d m' => exact fun v ι' F' H' e1 => h v ι' F' H' (e.trans e1)
  | exc c fs m' => exact fun ι' F' H' cls d e1 => h ι' F' H' cls d (e.trans e1)
  | bad => exact h
theorem Pst.imp (h : Pst C rel ι F Q E r) (k : ∀ v H, Q v H → Q' v H) : Pst C rel ι F Q' E r := by
  cases r with
  | ok d m' => exact fun v ι' F' H' e1 hr x => k _ _ (h v ι' F' H' e1 hr x)
  | exc c fs m' => exact h
  | bad => exact h
/-- behind the first piece stand its result and the rest -/
theorem Pst.bind {f : α → MH → R γ} {Q : δ → Hp → Prop} (h : Pst C rel2 ι F Q E (r.bind f)) :
    Pst C rel ι F (fun x H1 => ∃ ι1 F1 d m1, Ext ι F ι1 F1 ∧ HR C.Γ C.base C.bs C.G ι1 F1 m1 H1 ∧ rel ι1 F1 d x ∧ Pst C rel2 ι1 F1 Q E (f d m1)) E r := by
  cases r with
  | ok d m' => exact fun v ι' F' H' e1 hr x => ⟨ι', F', d, m', e1, hr, x, Pst.world e1 h⟩
  | exc c fs m' => exact h
  | bad => exact h
theorem Pst.ofO {o : Option α} {m : MH} {f : α → MH → R γ} {Q : δ → Hp → Prop} (h : Pst C rel2 ι F Q E ((ofO o m).bind f)) : ∃ a, o = some a ∧ Pst C rel2 ι F Q E (f a m) := by
  cases o with
  | none => exact h.elim
  | some a => exact ⟨a, rfl, h⟩
end

/-! ### reading -/
section
variable {Γ : Gl0} {base : Nat} {bs : List Nat} {G : Hp} {ι : List Addr} {F : Hp} {m : MH} {H : Hp}
theorem HR.at (R : HR Γ base bs G ι F m H) {i : Nat} {o : Ob} (h : m[i]? = some (some o)) : ∃ a ho, ι[i]? = some a ∧ F a = none ∧ G a = none ∧ H a = some ho ∧ ObDen Γ ι F a o ho := by
  have hi : i < ι.length := by rw [R.len]; exact (List.getElem?_eq_some_iff.mp h).1
  obtain ⟨h1, h2, ho, h3, h4⟩ := R.live i ι[i] o (List.getElem?_eq_getElem hi) h
  exact ⟨ι[i], ho, List.getElem?_eq_getElem hi, h1, h2, h3, h4⟩
theorem HR.ref (R : HR Γ base bs G ι F m H) {i : Nat} {o : Ob} {v : V} (h : m[i]? = some (some o)) (d : Den Γ ι F (.ref i) v) : ∃ a ho, v = .ref a ∧ ι[i]? = some a ∧ F a = none ∧ G a = none ∧ H a = some ho ∧ ObDen Γ ι F a o ho := by
  obtain ⟨a, ho, h1, h2, h3, h4, h5⟩ := R.at h
  obtain ⟨b, rfl, hb⟩ := d
  rw [h1] at hb; cases hb
  exact ⟨a, ho, rfl, h1, h2, h3, h4, h5⟩
/-- a list, wherever it stands -/
theorem HR.getW (R : HR Γ base bs G ι F m H) {d : D} {v : V} {ds : List D} (h : getW m d = some ds) (x : Den Γ ι F d v) : ∃ a vs, v = .ref a ∧ H a = some (.lst vs) ∧ Dens Γ ι F ds vs := by
  cases d with
  | lst es =>
    obtain ⟨a, vs, h1, h2, h3⟩ := x
    have e : es = ds := Option.some.inj h
    subst e
    exact ⟨a, vs, h1, R.f _ _ h2, h3⟩
  | ref i =>
    have h' : (match m[i]? with
      | some (some (.lst ds)) => some ds
      | _ => none) = some ds := h
    · split at h'
      · rename_i es hm
        have e : es = ds := Option.some.inj h'
        subst e
        obtain ⟨a, ho, h1, h2, h3, h4, h5, vs, rfl, h6⟩ := R.ref hm x
        exact ⟨a, vs, h1, h5, h6⟩
      · cases h'
  | _ => cases h
theorem HR.getL (R : HR Γ base bs G ι F m H) {d : D} {v : V} {ds : List D} (h : getL m d = some ds) (x : Den Γ ι F d v) : ∃ a vs, v = .ref a ∧ SqL Γ.K H a vs ∧ Dens Γ ι F ds vs := by
  cases d with
  | kls es =>
    obtain ⟨a, vs, h1, h2, h3⟩ := x
    have e : es = ds := Option.some.inj h
    subst e
    exact ⟨a, vs, h1, R.f.seqL h2, h3⟩
  | lst es => let ⟨a, vs, h1, h2, h3⟩ := R.getW (d := .lst es) h x; exact ⟨a, vs, h1, .of h2, h3⟩
  | ref es => let ⟨a, vs, h1, h2, h3⟩ := R.getW (d := .ref es) h x; exact ⟨a, vs, h1, .of h2, h3⟩
  | _ => cases h
theorem HR.getS (R : HR Γ base bs G ι F m H) {d : D} {v : V} {ds : List D} (h : getS m d = some ds) (x : Den Γ ι F d v) : ∃ a vs, v = .ref a ∧ (SqL Γ.K H a vs ∨ SqT Γ.K H a vs) ∧ Dens Γ ι F ds vs := by
  cases d with
  | tup es =>
    obtain ⟨a, vs, h1, h2, h3⟩ := x
    have e : es = ds := Option.some.inj h
    subst e
    exact ⟨a, vs, h1, .inr (R.f.seqT h2), h3⟩
  | lst es => let ⟨a, vs, h1, h2, h3⟩ := R.getL (d := .lst es) h x; exact ⟨a, vs, h1, .inl h2, h3⟩
  | kls es => let ⟨a, vs, h1, h2, h3⟩ := R.getL (d := .kls es) h x; exact ⟨a, vs, h1, .inl h2, h3⟩
  | ref es => let ⟨a, vs, h1, h2, h3⟩ := R.getL (d := .ref es) h x; exact ⟨a, vs, h1, .inl h2, h3⟩
  | _ => cases h
theorem HR.getK (R : HR Γ base bs G ι F m H) {d : D} {v : V} {t : Bool} {kvs : List (D × D)} (h : getK m d = some (t, kvs)) (x : Den Γ ι F d v) : ∃ a o, v = .ref a ∧ Rd H a o ∧ DctDen Γ ι F a t kvs o := by
  cases d with
  | dct u es =>
    obtain ⟨a, h1, h3⟩ := x
    have e : (u, es) = (t, kvs) := Option.some.inj h
    cases e
    rcases h3 with ⟨y, o, es, q, z⟩ | ⟨y, o, es, q, z⟩
    · exact ⟨a, _, h1, .inr ⟨o, R.f _ _ q⟩, .inl ⟨y, es, rfl, z⟩⟩
    · exact ⟨a, _, h1, .inr ⟨o, R.f _ _ q⟩, .inr ⟨y, es, rfl, z⟩⟩
  | ref i =>
    have h' : (match m[i]? with
      | some (some (.dct t kvs)) => some (t, kvs)
      | _ => none) = some (t, kvs) := h
    · split at h'
      · rename_i u es hm
        have e : (u, es) = (t, kvs) := Option.some.inj h'
        cases e
        obtain ⟨a, ho, h1, h2, h3, h4, h5, h6⟩ := R.ref hm x
        exact ⟨a, ho, h1, .inl h5, h6⟩
      · cases h'
  | _ => cases h
theorem HR.getI (R : HR Γ base bs G ι F m H) {d : D} {v : V} {c : String} {fs : Fs} (h : getI m d = some (c, fs)) (x : Den Γ ι F d v) : ∃ a dx vs, v = .ref a ∧ H a = some (.ins (Γ.ca c) dx vs) ∧ DenF Γ ι F fs vs := by
  cases d with
  | ins k es =>
    obtain ⟨a, dx, vs, h1, h2, h3⟩ := x
    have e : (k, es) = (c, fs) := Option.some.inj h
    cases e
    exact ⟨a, dx, vs, h1, R.f _ _ h2, h3⟩
  | ref i =>
    have h' : (match m[i]? with
      | some (some (.ins c fs)) => some (c, fs)
      | _ => none) = some (c, fs) := h
    · split at h'
      · rename_i k es hm
        have e : (k, es) = (c, fs) := Option.some.inj h'
        cases e
        obtain ⟨a, ho, h1, h2, h3, h4, h5, dx, vs, rfl, h6⟩ := R.ref hm x
        exact ⟨a, dx, vs, h1, h5, h6⟩
      · cases h'
  | _ => cases h

/-! ### making and changing -/
theorem Ext.alloc {p : Addr} (e : H p = none) (f : Sub F H) {o : HO} : Ext ι F ι (upd F p o) := ⟨⟨[], by simp⟩, fun a u h => by
  rw [upd_ne (fun q => by rw [q] at h; rw [f _ _ h] at e; cases e)]; exact h⟩
theorem Ext.push (p : Addr) : Ext ι F (ι ++ [p]) F := ⟨⟨[p], rfl⟩, Sub.refl F⟩
theorem Sub.upd_none {F H : Hp} {p : Addr} {o : HO} (f : Sub F H) (e : H p = none) : Sub F (upd H p o) := fun a u h => by
  rw [upd_ne (fun q => by rw [q] at h; rw [f _ _ h] at e; cases e)]; exact f _ _ h
/-- a new frozen thing -/
theorem HR.frozen (R : HR Γ base bs G ι F m H) {p : Addr} {o : HO} (hp : H p = none) : HR Γ base bs G ι (upd F p o) m (upd H p o) where
  g := R.g.upd_none hp
  f := fun a u h => by
    by_cases e : a = p
    · subst e; rw [upd_same] at h ⊢; exact h
    · rw [upd_ne e] at h ⊢; exact R.f _ _ h
  fg := fun a u h => by
    rw [upd_ne (fun q => by rw [q] at h; rw [R.g _ _ h] at hp; cases hp)]
    exact R.fg _ _ h
  len := R.len
  live := fun i a u h1 h2 => by
    obtain ⟨k1, k2, ho, k3, k4⟩ := R.live i a u h1 h2
    have ne : a ≠ p := fun q => by rw [q, hp] at k3; cases k3
    exact ⟨by rw [upd_ne ne]; exact k1, k2, ho, by rw [upd_ne ne]; exact k3, k4.mono (Ext.alloc hp R.f)⟩
  uniq := R.uniq
  top := R.top
  bel := R.bel
/-- a new thing that may be changed -/
theorem HR.alloc (R : HR Γ base bs G ι F m H) {p : Addr} {o : HO} {ob : Ob} (hp : H p = none) (d : ObDen Γ ι F p ob o) : HR Γ base bs G (ι ++ [p]) F (m ++ [some ob]) (upd H p o) where
  g := R.g.upd_none hp
  f := R.f.upd_none hp
  fg := R.fg
  len := by simp [R.len]
  live := fun i a u h1 h2 => by
    by_cases hi : i < m.length
    · rw [List.getElem?_append_left hi] at h2
      rw [List.getElem?_append_left (by rw [R.len]; exact hi)] at h1
      obtain ⟨k1, k2, ho, k3, k4⟩ := R.live i a u h1 h2
      have ne : a ≠ p := fun q => by rw [q, hp] at k3; cases k3
      exact ⟨k1, k2, ho, by rw [upd_ne ne]; exact k3, k4.mono (Ext.push p)⟩
    · rw [List.getElem?_append_right (by omega)] at h2
      rw [List.getElem?_append_right (by rw [R.len]; omega)] at h1
      have e : i - m.length = 0 := by
        have := (List.getElem?_eq_some_iff.mp h2).1
        simp at this; omega
      rw [e] at h2
      rw [R.len, e] at h1
      simp at h1 h2
      subst h1 h2
      refine ⟨?_, ?_, o, upd_same, d.mono (Ext.push p)⟩
      · cases q : F p with
        | none => rfl
        | some z => rw [R.f _ _ q] at hp; cases hp
      · cases q : G p with
        | none => rfl
        | some z => rw [R.g _ _ q] at hp; cases hp
  uniq := fun i j a o1 o2 h1 h2 h3 h4 => by
    have live' : ∀ k, k < m.length → ∀ (b : Addr) (u : Ob), (ι ++ [p])[k]? = some b → (m ++ [some ob])[k]? = some (some u) → b ≠ p ∧ ι[k]? = some b ∧ m[k]? = some (some u) := fun k hk b u q1 q2 => by
      rw [List.getElem?_append_left hk] at q2
      rw [List.getElem?_append_left (by rw [R.len]; exact hk)] at q1
      obtain ⟨k1, k2, ho, k3, k4⟩ := R.live k b u q1 q2
      exact ⟨(fun q => by rw [q, hp] at k3; cases k3), q1, q2⟩
    have new' : ∀ k, ¬ k < m.length → ∀ (b : Addr) (u : Ob), (ι ++ [p])[k]? = some b → (m ++ [some ob])[k]? = some (some u) → b = p ∧ k = m.length := fun k hk b u q1 q2 => by
      rw [List.getElem?_append_right (by omega)] at q2
      rw [List.getElem?_append_right (by rw [R.len]; omega)] at q1
      have e : k - m.length = 0 := by
        have := (List.getElem?_eq_some_iff.mp q2).1
        simp at this; omega
      rw [R.len, e] at q1
      simp at q1
      exact ⟨q1.symm, by omega⟩
    by_cases hi : i < m.length <;> by_cases hj : j < m.length
    · obtain ⟨_, x1, x2⟩ := live' i hi a o1 h1 h3
      obtain ⟨_, y1, y2⟩ := live' j hj a o2 h2 h4
      exact R.uniq i j a o1 o2 x1 y1 x2 y2
    · exact absurd (new' j hj a o2 h2 h4).1 (live' i hi a o1 h1 h3).1
    · exact absurd (new' i hi a o1 h1 h3).1 (live' j hj a o2 h2 h4).1
    · rw [(new' i hi a o1 h1 h3).2, (new' j hj a o2 h2 h4).2]
  top := ⟨R.top.1, fun b hb => ⟨(R.top.2 b hb).1, by rw [List.length_append]; have := (R.top.2 b hb).2; omega⟩⟩
  bel := fun b hb i u hi h2 => by
    have := (R.top.2 b hb).2
    rw [List.getElem?_append_left (by omega)] at h2
    exact R.bel b hb i u hi h2
/-- the thing at i is changed -/
theorem HR.change (R : HR Γ base bs G ι F m H) {i : Nat} {a : Addr} {o u : Ob} {ho : HO} (ha : ι[i]? = some a) (hm : m[i]? = some (some u)) (d : ObDen Γ ι F a o ho) (hb : base ≤ i ∨ ∀ n, obBelow n u = true → obBelow n o = true) :
    HR Γ base bs G ι F (m.set i (some o)) (upd H a ho) where
  g := fun b z h => by
    obtain ⟨_, k2, _⟩ := R.live i a u ha hm
    rw [upd_ne (fun q => by rw [q, k2] at h; cases h)]; exact R.g _ _ h
  f := fun b z h => by
    obtain ⟨k1, _⟩ := R.live i a u ha hm
    rw [upd_ne (fun q => by rw [q, k1] at h; cases h)]; exact R.f _ _ h
  fg := R.fg
  len := by simp [R.len]
  live := fun j b z h1 h2 => by
    by_cases e : i = j
    · subst e
      rw [ha] at h1; cases h1
      rw [List.getElem?_set_self (List.getElem?_eq_some_iff.mp hm).1] at h2
      cases h2
      obtain ⟨k1, k2, _⟩ := R.live i a u ha hm
      exact ⟨k1, k2, ho, upd_same, d⟩
    · rw [List.getElem?_set_ne e] at h2
      obtain ⟨k1, k2, hz, k3, k4⟩ := R.live j b z h1 h2
      have ne : b ≠ a := fun q => by subst q; exact e (R.uniq i j _ u z ha h1 hm h2)
      exact ⟨k1, k2, hz, by rw [upd_ne ne]; exact k3, k4⟩
  uniq := fun j k b o1 o2 h1 h2 h3 h4 => by
    have old : ∀ k (z : Ob), (m.set i (some o))[k]? = some (some z) → ∃ z', m[k]? = some (some z') := fun k z q => by
      by_cases e : i = k
      · subst e; exact ⟨u, hm⟩
      · rw [List.getElem?_set_ne e] at q; exact ⟨z, q⟩
    obtain ⟨z1, q1⟩ := old j o1 h3
    obtain ⟨z2, q2⟩ := old k o2 h4
    exact R.uniq j k b z1 z2 h1 h2 q1 q2
  top := ⟨R.top.1, fun b hb => ⟨(R.top.2 b hb).1, by rw [List.length_set]; exact (R.top.2 b hb).2⟩⟩
  bel := fun b hb' j z hj h2 => by
    by_cases e : i = j
    · subst e
      rw [List.getElem?_set_self (List.getElem?_eq_some_iff.mp hm).1] at h2
      cases h2
      rcases hb with h | h
      · have := (R.top.2 b hb').1; omega
      · exact h b (R.bel b hb' i u hj hm)
    · rw [List.getElem?_set_ne e] at h2
      exact R.bel b hb' j z hj h2
end
end Zi
set_option maxHeartbeats 4000000
/-! Z2: operators by values. -/
namespace Zi
open PySem PySem.Spec PyProof.Rows L2

/-! ### readings -/
theorem PE.imp {X : Cx} {e : Expr} {t t' : TE} (h : PE X e t) (k : ∀ σ H Q, t' σ H Q → t σ H Q) : PE X e t' := ⟨fun pins s σ H Q I w => h.run pins s σ H Q I (k σ H Q w)⟩
theorem PT.imp {X : Cx} {e : Expr} {t t' : TT} (h : PT X e t) (k : ∀ σ H Q, t' σ H Q → t σ H Q) : PT X e t' := ⟨fun pins s σ H Q I w => h.run pins s σ H Q I (k σ H Q w)⟩
theorem PA.imp {X : Cx} {e : List Expr} {t t' : TA} (h : PA X e t) (k : ∀ σ H Q, t' σ H Q → t σ H Q) : PA X e t' := ⟨fun p pins s σ H Q I w => h.run p pins s σ H Q I (k σ H Q w)⟩
theorem PS.imp {X : Cx} {e : Stmt} {t t' : TS} (h : PS X e t) (k : ∀ D σ H, t' D σ H → t D σ H) : PS X e t' := ⟨fun pins s σ H D I w => h.run pins s σ H D I (k D σ H w)⟩
theorem PSs.imp {X : Cx} {e : List Stmt} {t t' : TS} (h : PSs X e t) (k : ∀ D σ H, t' D σ H → t D σ H) : PSs X e t' := ⟨fun pins s σ H D I w => h.run pins s σ H D I (k D σ H w)⟩
theorem PG.imp {X : Cx} {e : Expr} {t t' : TG} (h : PG X e t) (k : ∀ v σ H Q, t' v σ H Q → t v σ H Q) : PG X e t' := ⟨fun pins s σ H v u Q I r w => h.run pins s σ H v u Q I r (k v σ H Q w)⟩
theorem PI.imp {X : Cx} {tg e : Expr} {t t' : TI} (h : PI X tg e t) (k : ∀ σ H R, t' σ H R → t σ H R) : PI X tg e t' := ⟨fun pins s σ H R I w => h.run pins s σ H R I (k σ H R w)⟩

/-- the slots -/
structure SR (Γ : Gl0) (ι : List Addr) (F : Hp) (ρ : Ev) (σ : L2.St) : Prop where
  len : σ.length = ρ.length
  at_ : ∀ (i : Nat) (d : D), ρ[i]? = some (some d) → ∃ v, σ[i]? = some (some v) ∧ Den Γ ι F d v
section
variable {Γ : Gl0} {ι ι' : List Addr} {F F' : Hp} {ρ : Ev} {σ : L2.St}
theorem SR.mono (h : SR Γ ι F ρ σ) (e : Ext ι F ι' F') : SR Γ ι' F' ρ σ := ⟨h.len, fun i d q => let ⟨v, h1, h2⟩ := h.at_ i d q; ⟨v, h1, h2.mono e⟩⟩
theorem SR.set (h : SR Γ ι F ρ σ) {d : D} {v : V} (x : Den Γ ι F d v) (i : Nat) : SR Γ ι F (ρ.set i (some d)) (σ.set i (some v)) where
  len := by simp [h.len]
  at_ := fun j e q => by
    by_cases hj : i = j
    · subst hj
      by_cases hi : i < ρ.length
      · rw [List.getElem?_set_self hi] at q
        cases q
        exact ⟨v, List.getElem?_set_self (by rw [h.len]; exact hi), x⟩
      · rw [List.getElem?_eq_none (by simpa using hi)] at q; cases q
    · rw [List.getElem?_set_ne hj] at q ⊢
      exact h.at_ j e q
theorem SR.clear (h : SR Γ ι F ρ σ) (i : Nat) (o : Option V) : SR Γ ι F (ρ.set i none) (σ.set i o) where
  len := by simp [h.len]
  at_ := fun j e q => by
    by_cases hj : i = j
    · subst hj
      by_cases hi : i < ρ.length
      · rw [List.getElem?_set_self hi] at q; cases q
      · rw [List.getElem?_eq_none (by simpa using hi)] at q; cases q
    · rw [List.getElem?_set_ne hj] at q ⊢
      exact h.at_ j e q
theorem SR.wipe (h : SR Γ ι F ρ σ) : ∀ vs : List Nat, SR Γ ι F (wipeE ρ vs) (L2.wipe σ vs)
  | [] => h
  | v :: vs => (SR.wipe h vs).clear v none
end

/-- an expression's reading by the model -/
def tZ {α β : Type} (Γ : Gl0) (base : Nat) (W : WX) (rel : List Addr → Hp → α → β → Prop) (g : Ev → MH → R α): L2.St → Hp → (β → Hp → Prop) → Prop := fun σ H Q =>
  ∃ bs G ι F ρ m, SR Γ ι F ρ σ ∧ HR Γ base bs G ι F m H ∧ Pst ⟨Γ, base, bs, G⟩ rel ι F Q (fun cls d H' => W cls d σ H') (g ρ m)
abbrev tE (Γ : Gl0) (base : Nat) (W : WX) (g : Ev → MH → R D) : TE := tZ Γ base W (Den Γ) g
abbrev tA (Γ : Gl0) (base : Nat) (W : WX) (g : Ev → MH → R (List D)) : TA := tZ Γ base W (Dens Γ) g
abbrev relB : List Addr → Hp → Bool → Bool → Prop := fun _ _ a b => a = b
abbrev tT (Γ : Gl0) (base : Nat) (W : WX) (g : Ev → MH → R Bool) : TT := tZ Γ base W relB g

/-! ### one value, two values -/
/-- the model's operation f on two values -/
def r2Z (Γ : Gl0) (base : Nat) (f : D → D → MH → R D) : R2 := fun x y H Q => ∃ bs G ι F m dx dy E, HR Γ base bs G ι F m H ∧ Den Γ ι F dx x ∧ Den Γ ι F dy y ∧ Pst ⟨Γ, base, bs, G⟩ (Den Γ) ι F Q E (f dx dy m)
def r1Z (Γ : Gl0) (base : Nat) (f : D → MH → R D) : V → Hp → VK → Prop := fun x H Q => ∃ bs G ι F m dx E, HR Γ base bs G ι F m H ∧ Den Γ ι F dx x ∧ Pst ⟨Γ, base, bs, G⟩ (Den Γ) ι F Q E (f dx m)
def rsZ (Γ : Gl0) (base : Nat) (f : List D → MH → R D) : List V → Hp → VK → Prop := fun xs H Q => ∃ bs G ι F m ds E, HR Γ base bs G ι F m H ∧ Dens Γ ι F ds xs ∧ Pst ⟨Γ, base, bs, G⟩ (Den Γ) ι F Q E (f ds m)

section
variable {Γ : Gl0} {base : Nat} {bs : List Nat} {G : Hp} {ι : List Addr} {F : Hp} {m : MH} {H : Hp} {Q : VK} {E : XK}
/-- a result that is no new thing -/
theorem Pst.done {d : D} {v : V} (R : HR Γ base bs G ι F m H) (h : Pst ⟨Γ, base, bs, G⟩ (Den Γ) ι F Q E (.ok d m)) (x : Den Γ ι F d v) : Q v H := h v ι F H (Ext.refl ι F) R x
/-- a new list -/
theorem Pst.newL {fz : Bool} {ds : List D} {vs : List V} (R : HR Γ base bs G ι F m H) (h : Pst ⟨Γ, base, bs, G⟩ (Den Γ) ι F Q E (mkL fz ds m)) (x : Dens Γ ι F ds vs) :
    vs.length ≤ sizeLine ∧ ∀ p, H p = none → Q (.ref p) (upd H p (.lst vs)) := by
  unfold mkL at h
  split at h
  · rename_i hz
    refine ⟨by rw [sizeLine_eq, ← x.length]; exact hz, fun p hp => ?_⟩
    cases fz with
    | true =>
      have e : Ext ι F ι (upd F p (.lst vs)) := Ext.alloc hp R.f
      exact h (.ref p) ι _ _ e (R.frozen hp) ⟨p, vs, rfl, upd_same, x.mono e⟩
    | false =>
      exact h (.ref p) _ F _ (Ext.push p) (R.alloc hp ⟨vs, rfl, x⟩) ⟨p, rfl, by rw [← R.len]; simp⟩
  · exact h.elim
theorem Pst.newT {ds : List D} {vs : List V} (R : HR Γ base bs G ι F m H) (h : Pst ⟨Γ, base, bs, G⟩ (Den Γ) ι F Q E (mkT ds m)) (x : Dens Γ ι F ds vs) :
    vs.length ≤ sizeLine ∧ ∀ p, H p = none → Q (.ref p) (upd H p (.tup vs)) := by
  unfold mkT at h
  split at h
  · rename_i hz
    refine ⟨by rw [sizeLine_eq, ← x.length]; exact hz, fun p hp => ?_⟩
    have e : Ext ι F ι (upd F p (.tup vs)) := Ext.alloc hp R.f
    exact h (.ref p) ι _ _ e (R.frozen hp) ⟨p, vs, rfl, .of upd_same, x.mono e⟩
  · exact h.elim
end

/-! ### truth -/
theorem DenT.isEmpty {Γ : Gl0} {ι : List Addr} {F : Hp} {kvs : List (D × D)} {es : List (NestedKey × Addr × V)} (h : DenT Γ ι F kvs es) : kvs.isEmpty = es.isEmpty := by
  cases kvs with
  | nil => rw [show es = [] from h]; rfl
  | cons p r => obtain ⟨a, b⟩ := p; obtain ⟨k, q, v, es', h1, _⟩ := h; rw [h1]; rfl
theorem DenK.isEmpty {Γ : Gl0} {ι : List Addr} {F : Hp} {kvs : List (D × D)} {es : List (Key × V)} (h : DenK Γ ι F kvs es) : kvs.isEmpty = es.isEmpty := by
  cases kvs with
  | nil => rw [show es = [] from h]; rfl
  | cons p r => obtain ⟨a, b⟩ := p; obtain ⟨k, v, es', h1, _⟩ := h; rw [h1]; rfl
theorem Dens.isEmpty {Γ : Gl0} {ι : List Addr} {F : Hp} {ds : List D} {vs : List V} (h : Dens Γ ι F ds vs) : ds.isEmpty = vs.isEmpty := by
  cases ds with
  | nil => rw [show vs = [] from h]; rfl
  | cons d r => obtain ⟨v, r', h1, _⟩ := h; rw [h1]; rfl
theorem truth_ok {Γ : Gl0} {base : Nat} {bs : List Nat} {G : Hp} {ι : List Addr} {F : Hp} {m : MH} {H : Hp} (R : HR Γ base bs G ι F m H) {d : D} {v : V} {k : Bool} (x : Den Γ ι F d v) (h : truth m d = some k) : TruV Γ.K v H k := by
  cases d with
  | non => cases x; cases h; rfl
  | bl b => cases x; cases h; rfl
  | int i => cases x; cases h; rfl
  | str s =>
    cases x
    unfold truth at h
    simp only at h
    split at h
    · rename_i hz
      cases h
      refine ⟨by rw [sizeLine_eq]; exact hz, ?_⟩
      cases hs : s.length with
      | zero => rfl
      | succ n => rfl
    · cases h
  | tup ds =>
    obtain ⟨a, vs, rfl, h2, h3⟩ := x
    cases h
    exact .inr (.inl ⟨vs, R.f.seqT h2, by rw [h3.isEmpty]⟩)
  | ins c fs => cases h
  | lst ds =>
    obtain ⟨a, vs, rfl, h2, h3⟩ := R.getL (d := .lst ds) rfl x
    cases h
    exact .inl ⟨vs, h2, by rw [← h3.isEmpty]⟩
  | dct t kvs => cases h
  | kls ds =>
    obtain ⟨a, vs, rfl, h2, h3⟩ := R.getL (d := .kls ds) rfl x
    cases h
    exact .inl ⟨vs, h2, by rw [← h3.isEmpty]⟩
  | ref i =>
    obtain ⟨ds, e, e2⟩ := Option.map_eq_some_iff.mp (show (getL m (.ref i)).map (fun ds => !ds.isEmpty) = some k from h)
    subst e2
    obtain ⟨a, vs, rfl, h2, h3⟩ := R.getL e x
    exact .inl ⟨vs, h2, by rw [← h3.isEmpty]⟩

/-! ### == -/
theorem getL_ref {m : MH} {i : Nat} {ds : List D} (h : m[i]? = some (some (.lst ds))) : getL m (.ref i) = some ds := by
  show (match m[i]? with
    | some (some (.lst ds)) => some ds
    | _ => none) = _
  rw [h]
mutual
def normP : PyData → K2
  | .none => .none
  | .bool b => .num (if b then 1 else 0)
  | .int i => .num i
  | .str x => .text x
  | .list xs => .lst (normPs xs)
  | .tuple xs => .tup (normPs xs)
  | .dict _ => .none
def normPs : List PyData → List K2
  | [] => []
  | x :: xs => normP x :: normPs xs
end
mutual
theorem dat_nf : ∀ (d : D) (k : K2), nf d = some k → ∃ p, datOf d = some p ∧ normP p = k
  | .non, _, h => by cases h; exact ⟨_, rfl, rfl⟩
  | .bl b, _, h => by cases h; exact ⟨_, rfl, rfl⟩
  | .int i, _, h => by cases h; exact ⟨_, rfl, rfl⟩
  | .str x, _, h => by cases h; exact ⟨_, rfl, rfl⟩
  | .tup ds, k, h => by
    obtain ⟨ks, h1, h2⟩ := Option.map_eq_some_iff.mp (show (nfs ds).map K2.tup = some k from h)
    obtain ⟨ps, h3, h4⟩ := dats_nf ds ks h1
    exact ⟨.tuple ps, by show (datsOf ds).map PyData.tuple = _; rw [h3]; rfl, by show K2.tup (normPs ps) = k; rw [h4]; exact h2⟩
  | .lst ds, k, h => by
    obtain ⟨ks, h1, h2⟩ := Option.map_eq_some_iff.mp (show (nfs ds).map K2.lst = some k from h)
    obtain ⟨ps, h3, h4⟩ := dats_nf ds ks h1
    exact ⟨.list ps, by show (datsOf ds).map PyData.list = _; rw [h3]; rfl, by show K2.lst (normPs ps) = k; rw [h4]; exact h2⟩
  | .kls ds, k, h => by
    obtain ⟨ks, h1, h2⟩ := Option.map_eq_some_iff.mp (show (nfs ds).map K2.lst = some k from h)
    obtain ⟨ps, h3, h4⟩ := dats_nf ds ks h1
    exact ⟨.list ps, by show (datsOf ds).map PyData.list = _; rw [h3]; rfl, by show K2.lst (normPs ps) = k; rw [h4]; exact h2⟩
  | .dct _ _, _, h => by cases h
  | .ins _ _, _, h => by cases h
  | .ref _, _, h => by cases h
theorem dats_nf : ∀ (ds : List D) (ks : List K2), nfs ds = some ks → ∃ ps, datsOf ds = some ps ∧ normPs ps = ks
  | [], _, h => by cases h; exact ⟨[], rfl, rfl⟩
  | d :: ds, ks, h => by
    have h' : (match nf d, nfs ds with
      | some k, some ks => some (k :: ks)
      | _, _ => none) = some ks := h
    split at h'
    · rename_i k ks' e1 e2
      cases h'
      obtain ⟨p, h3, h4⟩ := dat_nf d k e1
      obtain ⟨ps, h5, h6⟩ := dats_nf ds ks' e2
      refine ⟨p :: ps, ?_, by show normP p :: normPs ps = _; rw [h4, h6]⟩
      show (match datOf d, datsOf ds with
        | some k, some ks => some (k :: ks)
        | _, _ => none) = _
      rw [h3, h5]
    · cases h'
end
mutual
theorem fit_lay : ∀ (d : D) (p : PyData) (n : Nat), datOf d = some p → (normP p).fit n = true → p.canLay0 = true ∧ p.depth ≤ n
  | .non, _, n, h, _ => by cases h; exact ⟨rfl, Nat.zero_le _⟩
  | .bl b, _, n, h, _ => by cases h; exact ⟨rfl, Nat.zero_le _⟩
  | .int i, _, n, h, _ => by cases h; exact ⟨rfl, Nat.zero_le _⟩
  | .str x, _, n, h, g => by cases h; exact ⟨g, Nat.zero_le _⟩
  | .tup ds, p, n, h, g => by
    obtain ⟨ps, h1, h2⟩ := Option.map_eq_some_iff.mp (show (datsOf ds).map PyData.tuple = some p from h)
    subst h2
    have g' : (decide (0 < n) && K2.fits (normPs ps) (n - 1)) = true := g
    rw [Bool.and_eq_true, decide_eq_true_eq] at g'
    obtain ⟨h3, h4⟩ := fits_lay ds ps (n - 1) h1 g'.2
    refine ⟨by simpa only [PyData.canLay0] using h3, ?_⟩
    show PyData.depthAll ps + 1 ≤ n
    omega
  | .lst ds, p, n, h, g => by
    obtain ⟨ps, h1, h2⟩ := Option.map_eq_some_iff.mp (show (datsOf ds).map PyData.list = some p from h)
    subst h2
    have g' : (decide (0 < n) && K2.fits (normPs ps) (n - 1)) = true := g
    rw [Bool.and_eq_true, decide_eq_true_eq] at g'
    obtain ⟨h3, h4⟩ := fits_lay ds ps (n - 1) h1 g'.2
    refine ⟨by simpa only [PyData.canLay0] using h3, ?_⟩
    show PyData.depthAll ps + 1 ≤ n
    omega
  | .kls ds, p, n, h, g => by
    obtain ⟨ps, h1, h2⟩ := Option.map_eq_some_iff.mp (show (datsOf ds).map PyData.list = some p from h)
    subst h2
    have g' : (decide (0 < n) && K2.fits (normPs ps) (n - 1)) = true := g
    rw [Bool.and_eq_true, decide_eq_true_eq] at g'
    obtain ⟨h3, h4⟩ := fits_lay ds ps (n - 1) h1 g'.2
    refine ⟨by simpa only [PyData.canLay0] using h3, ?_⟩
    show PyData.depthAll ps + 1 ≤ n
    omega
  | .dct _ _, _, _, h, _ => by cases h
  | .ins _ _, _, _, h, _ => by cases h
  | .ref _, _, _, h, _ => by cases h
theorem fits_lay : ∀ (ds : List D) (ps : List PyData) (n : Nat), datsOf ds = some ps → K2.fits (normPs ps) n = true → PyData.canLayAll0 ps = true ∧ PyData.depthAll ps ≤ n
  | [], _, n, h, _ => by cases h; exact ⟨rfl, Nat.zero_le _⟩
  | d :: ds, ps, n, h, g => by
    have h' : (match datOf d, datsOf ds with
      | some k, some ks => some (k :: ks)
      | _, _ => none) = some ps := h
    split at h'
    · rename_i q qs e1 e2
      cases h'
      have g' : ((normP q).fit n && K2.fits (normPs qs) n) = true := g
      rw [Bool.and_eq_true] at g'
      obtain ⟨h3, h4⟩ := fit_lay d q n e1 g'.1
      obtain ⟨h5, h6⟩ := fits_lay ds qs n e2 g'.2
      refine ⟨by simp only [PyData.canLayAll0, h3, h5, Bool.and_self], ?_⟩
      show max (PyData.depth q) (PyData.depthAll qs) ≤ n
      omega
    · cases h'
end
mutual
theorem eqv_norm : ∀ (p q : PyData), p.canLay0 = true → q.canLay0 = true → PyData.eqv p q = K2.beq (normP p) (normP q)
  | .none, q, _, hq => by
    cases q with
    | dict _ => cases hq
    | _ => simp only [PyData.eqv, normP, K2.beq]
  | .bool a, q, _, hq => by
    cases q with
    | bool b => cases a <;> cases b <;> rfl
    | int j => simp only [PyData.eqv, normP, K2.beq]; exact Bool.beq_eq_decide_eq _ _
    | dict _ => cases hq
    | _ => simp only [PyData.eqv, normP, K2.beq]
  | .int a, q, _, hq => by
    cases q with
    | bool b => simp only [PyData.eqv, normP, K2.beq]; exact Bool.beq_eq_decide_eq _ _
    | int j => simp only [PyData.eqv, normP, K2.beq]; exact Bool.beq_eq_decide_eq _ _
    | dict _ => cases hq
    | _ => simp only [PyData.eqv, normP, K2.beq]
  | .str a, q, _, hq => by
    cases q with
    | str b => simp only [PyData.eqv, normP, K2.beq]; exact Bool.beq_eq_decide_eq _ _
    | dict _ => cases hq
    | _ => simp only [PyData.eqv, normP, K2.beq]
  | .list xs, q, hp, hq => by
    cases q with
    | list ys =>
      simp only [PyData.eqv, normP, K2.beq]
      exact eqvs_norm xs ys (by simpa only [PyData.canLay0] using hp) (by simpa only [PyData.canLay0] using hq)
    | dict _ => cases hq
    | _ => simp only [PyData.eqv, normP, K2.beq]
  | .tuple xs, q, hp, hq => by
    cases q with
    | tuple ys =>
      simp only [PyData.eqv, normP, K2.beq]
      exact eqvs_norm xs ys (by simpa only [PyData.canLay0] using hp) (by simpa only [PyData.canLay0] using hq)
    | dict _ => cases hq
    | _ => simp only [PyData.eqv, normP, K2.beq]
  | .dict _, _, hp, _ => by cases hp
theorem eqvs_norm : ∀ (ps qs : List PyData), PyData.canLayAll0 ps = true → PyData.canLayAll0 qs = true → PyData.eqvAll ps qs = K2.beqs (normPs ps) (normPs qs)
  | [], [], _, _ => rfl
  | [], _ :: _, _, _ => rfl
  | _ :: _, [], _, _ => rfl
  | p :: ps, q :: qs, hp, hq => by
    simp only [PyData.canLayAll0, Bool.and_eq_true] at hp hq
    simp only [PyData.eqvAll, normPs, K2.beqs]
    rw [eqv_norm p q hp.1 hq.1, eqvs_norm ps qs hp.2 hq.2]
end
theorem decide_beq (p q : K2) : K2.beq p q = decide (p = q) := by
  cases h : K2.beq p q with
  | true => exact (decide_eq_true (K2.eq_of_beq p q h)).symm
  | false => exact (decide_eq_false fun e => by rw [e, K2.beq_self] at h; cases h).symm
section
variable {Γ : Gl0} {base : Nat} {bs : List Nat} {G : Hp} {ι : List Addr} {F : Hp} {m : MH} {H : Hp}
mutual
theorem Den.dp (f : Sub F H) : ∀ (d : D) (p : PyData) (v : V), datOf d = some p → Den Γ ι F d v → Dp Γ.K H v p
  | .non, _, _, h, x => by cases h; cases x; exact .non
  | .bl b, _, _, h, x => by cases h; cases x; exact .bl b
  | .int i, _, _, h, x => by cases h; cases x; exact .int i
  | .str s, _, _, h, x => by cases h; cases x; exact .str s
  | .tup ds, p, _, h, ⟨a, vs, h1, h2, h3⟩ => by
    obtain ⟨ps, q1, q2⟩ := Option.map_eq_some_iff.mp (show (datsOf ds).map PyData.tuple = some p from h)
    subst q2 h1
    exact .tup (f.seqT h2) (Dens.dp f ds ps vs q1 h3)
  | .lst ds, p, _, h, ⟨a, vs, h1, h2, h3⟩ => by
    obtain ⟨ps, q1, q2⟩ := Option.map_eq_some_iff.mp (show (datsOf ds).map PyData.list = some p from h)
    subst q2 h1
    exact .lst (.of (f _ _ h2)) (Dens.dp f ds ps vs q1 h3)
  | .kls ds, p, _, h, ⟨a, vs, h1, h2, h3⟩ => by
    obtain ⟨ps, q1, q2⟩ := Option.map_eq_some_iff.mp (show (datsOf ds).map PyData.list = some p from h)
    subst q2 h1
    exact .lst (f.seqL h2) (Dens.dp f ds ps vs q1 h3)
  | .dct _ _, _, _, h, _ => by cases h
  | .ins _ _, _, _, h, _ => by cases h
  | .ref _, _, _, h, _ => by cases h
theorem Dens.dp (f : Sub F H) : ∀ (ds : List D) (ps : List PyData) (vs : List V), datsOf ds = some ps → Dens Γ ι F ds vs → DpAll Γ.K H vs ps
  | [], _, _, h, x => by cases h; rw [show _ = [] from x]; exact .nil
  | d :: ds, ps, _, h, ⟨v, r, h1, h2, h3⟩ => by
    have h' : (match datOf d, datsOf ds with
      | some k, some ks => some (k :: ks)
      | _, _ => none) = some ps := h
    split at h'
    · rename_i q qs e1 e2
      cases h'
      rw [h1]
      exact .cons (Den.dp f d q v e1 h2) (Dens.dp f ds qs r e2 h3)
    · cases h'
end
/-- a value whose normal form is k and fits -/
theorem HR.dat (R : HR Γ base bs G ι F m H) {d d' : D} {v : V} {k : K2} (o : cmpD.openL m d = some d') (n : nf d' = some k) (g : k.fit 60 = true) (x : Den Γ ι F d v) :
    ∃ p, Dp Γ.K H v p ∧ normP p = k ∧ p.canLay0 = true ∧ SeqAt.shaped p = true := by
  obtain ⟨p, h1, h2⟩ := dat_nf d' k n
  obtain ⟨h3, h4⟩ := fit_lay d' p 60 h1 (by rw [h2]; exact g)
  have sh : SeqAt.shaped p = true := by
    unfold SeqAt.shaped
    rw [h3, Bool.true_and]
    exact decide_eq_true (by omega)
  refine ⟨p, ?_, h2, h3, sh⟩
  cases d with
  | ref i =>
    have o' : (match m[i]? with
      | some (some (.lst ds)) => some (D.lst ds)
      | _ => none) = some d' := o
    split at o'
    · rename_i ds hm
      cases o'
      obtain ⟨a, vs, rfl, q1, q2⟩ := R.getL (d := .ref i) (ds := ds) (getL_ref hm) x
      obtain ⟨ps, z1, z2⟩ := Option.map_eq_some_iff.mp (show (datsOf ds).map PyData.list = some p from h1)
      subst z2
      exact .lst q1 (Dens.dp R.f ds ps vs z1 q2)
    · cases o'
  | _ => cases o; exact Den.dp R.f _ p v h1 x
end
end Zi
set_option maxHeartbeats 4000000
/-! Z3: dicts. -/
namespace Zi
open PySem PySem.Spec PyProof.Rows L2

/-! ### keys -/
def kK : Key → K2
  | .inl i => .num i
  | .inr x => .text x
theorem keyOf_kD (k : Key) : keyOf (kD k) = some (kK k) := by cases k <;> rfl
theorem kK_inj {a b : Key} (e : kK a = kK b) : a = b := by
  cases a <;> cases b <;> first | (injection e with e; rw [e]) | (cases e)
theorem kK_tup (k : Key) (q : List K2) : kK k ≠ .tup q := by cases k <;> (intro e; cases e)
theorem key_shape {d : D} {k : K2} (h : keyOf d = some k) : (∃ q : Key, k = kK q ∧ d = kD q) ∨ ∃ ds q, d = .tup ds ∧ k = .tup q ∧ nfs ds = some q ∧ K2.hashables q = true ∧ K2.fits q 7 = true := by
  cases d with
  | int i => cases h; exact .inl ⟨.inl i, rfl, rfl⟩
  | str x => cases h; exact .inl ⟨.inr x, rfl, rfl⟩
  | tup ds =>
    have h' : (match nfs ds with
      | some ks => if K2.hashables ks = true ∧ K2.fits ks 7 = true then some (K2.tup ks) else none
      | none => none) = some k := h
    split at h'
    · rename_i ks e
      split at h'
      · rename_i c
        cases h'
        exact .inr ⟨ds, ks, rfl, rfl, e, c.1, c.2⟩
      · cases h'
    · cases h'
  | _ => cases h
theorem keyFor_f {d : D} {k : K2} (h : keyFor false d = some k) : ∃ q : Key, k = kK q ∧ d = kD q := by
  have h' : (match keyOf d with
    | some (.tup q) => if false = true then some (K2.tup q) else none
    | some k => if false = true then none else some k
    | none => none) = some k := h
  split at h'
  · rw [if_neg (by decide)] at h'; cases h'
  · rename_i k' hn e
    rw [if_neg (by decide)] at h'
    cases h'
    rcases key_shape e with z | ⟨ds, q, rfl, rfl, _⟩
    · exact z
    · exact absurd rfl (hn q)
  · cases h'
theorem keyFor_t {d : D} {k : K2} (h : keyFor true d = some k) : ∃ ds q, d = .tup ds ∧ k = .tup q ∧ keyOf d = some (.tup q) ∧ nfs ds = some q ∧ K2.hashables q = true ∧ K2.fits q 7 = true := by
  have h' : (match keyOf d with
    | some (.tup q) => if true = true then some (K2.tup q) else none
    | some k => if true = true then none else some k
    | none => none) = some k := h
  split at h'
  · rename_i q e
    rw [if_pos rfl] at h'
    cases h'
    rcases key_shape e with ⟨z, z1, z2⟩ | ⟨ds, q', e1, e2, z⟩
    · exact absurd z1.symm (kK_tup z q)
    · cases e2
      exact ⟨ds, q, e1, rfl, e, z⟩
  · rw [if_pos rfl] at h'; cases h'
  · cases h'
mutual
theorem toN_inj : ∀ (a b : K2), a.hashable = true → b.hashable = true → toN a = toN b → a = b
  | .none, b, _, hb, e => by
    cases b with
    | none => rfl
    | lst _ => cases hb
    | _ => cases e
  | .num i, b, _, hb, e => by cases b <;> first | (injection e with e; rw [e]) | cases e | cases hb
  | .text i, b, _, hb, e => by cases b <;> first | (injection e with e; rw [e]) | cases e | cases hb
  | .tup ks, b, ha, hb, e => by
    cases b with
    | tup js =>
      have e' : NestedKey.tup (toNs ks) = NestedKey.tup (toNs js) := e
      injection e' with e'
      rw [toNs_inj ks js ha hb e']
    | lst _ => cases hb
    | _ => cases e
  | .lst _, _, ha, _, _ => by cases ha
theorem toNs_inj : ∀ (a b : List K2), K2.hashables a = true → K2.hashables b = true → toNs a = toNs b → a = b
  | [], [], _, _, _ => rfl
  | [], _ :: _, _, _, e => by cases e
  | _ :: _, [], _, _, e => by cases e
  | x :: xs, y :: ys, ha, hb, e => by
    have ha' : (x.hashable && K2.hashables xs) = true := ha
    have hb' : (y.hashable && K2.hashables ys) = true := hb
    rw [Bool.and_eq_true] at ha' hb'
    have e' : toN x :: toNs xs = toN y :: toNs ys := e
    injection e' with e1 e2
    rw [toN_inj x y ha'.1 hb'.1 e1, toNs_inj xs ys ha'.2 hb'.2 e2]
end
mutual
theorem depth_fit : ∀ (k : K2) (n : Nat), k.fit n = true → (toN k).depth ≤ n
  | .none, _, _ => Nat.zero_le _
  | .num _, _, _ => Nat.zero_le _
  | .text _, _, _ => Nat.zero_le _
  | .lst _, _, _ => Nat.zero_le _
  | .tup ks, n, h => by
    have h' : (decide (0 < n) && K2.fits ks (n - 1)) = true := h
    rw [Bool.and_eq_true, decide_eq_true_eq] at h'
    have := depths_fit ks (n - 1) h'.2
    show NestedKey.depthAll (toNs ks) + 1 ≤ n
    omega
theorem depths_fit : ∀ (ks : List K2) (n : Nat), K2.fits ks n = true → NestedKey.depthAll (toNs ks) ≤ n
  | [], _, _ => Nat.zero_le _
  | k :: ks, n, h => by
    have h' : (k.fit n && K2.fits ks n) = true := h
    rw [Bool.and_eq_true] at h'
    have h1 := depth_fit k n h'.1
    have h2 := depths_fit ks n h'.2
    show max (NestedKey.depth (toN k)) (NestedKey.depthAll (toNs ks)) ≤ n
    omega
end

/-! ### what holds of the layer and the model at once -/
section
variable {X : Cx} {pins : List (Addr × Obj)} {σ : L2.St} {H : Hp} {s : Shared} {Γ : Gl0} {base : Nat} {bs : List Nat} {G : Hp} {ι : List Addr} {F : Hp} {m : MH}
mutual
/-- a value that may be a key is one in the heap -/
theorem Den.nested (I : Inv X pins σ H s) (hK : Γ.K = X.K) (f : Sub F H) : ∀ (d : D) (k : K2) (v : V) (u : Value), nf d = some k → k.hashable = true → Den Γ ι F d v → RelV v u → NestedIs s.heap (toN k) u
  | .non, _, _, _, h, _, x, r => by cases h; cases x; cases r; exact .none
  | .bl b, _, _, _, h, _, x, r => by cases h; cases x; cases r; exact .bool rfl
  | .int i, _, _, _, h, _, x, r => by cases h; cases x; obtain ⟨t, rfl⟩ := r; exact .int i t
  | .str z, _, _, _, h, _, x, r => by cases h; cases x; obtain ⟨t, rfl⟩ := r; exact .text z t
  | .tup ds, k, _, _, h, g, ⟨a, vs, h1, h2, h3⟩, r => by
    obtain ⟨ks, q1, q2⟩ := Option.map_eq_some_iff.mp (show (nfs ds).map K2.tup = some k from h)
    subst q2 h1
    cases r
    obtain ⟨its, rv, ⟨o, n, h4, h5, h6⟩, hz⟩ := I.tuple (by rw [← hK]; exact f.seqT h2)
    exact .tup n h4 h6 (by simpa using Dens.nested I hK f ds ks vs its q1 g h3 rv)
  | .lst ds, k, _, _, h, g, _, _ => by
    obtain ⟨ks, q1, q2⟩ := Option.map_eq_some_iff.mp (show (nfs ds).map K2.lst = some k from h)
    subst q2
    cases g
  | .kls ds, k, _, _, h, g, _, _ => by
    obtain ⟨ks, q1, q2⟩ := Option.map_eq_some_iff.mp (show (nfs ds).map K2.lst = some k from h)
    subst q2
    cases g
  | .dct _ _, _, _, _, h, _, _, _ => by cases h
  | .ins _ _, _, _, _, h, _, _, _ => by cases h
  | .ref _, _, _, _, h, _, _, _ => by cases h
theorem Dens.nested (I : Inv X pins σ H s) (hK : Γ.K = X.K) (f : Sub F H) : ∀ (ds : List D) (ks : List K2) (vs : List V) (us : List Value), nfs ds = some ks → K2.hashables ks = true → Dens Γ ι F ds vs → Vals vs us → NestedAll s.heap (toNs ks) us
  | [], _, _, _, h, _, x, r => by
    cases h
    rw [show _ = [] from x] at r
    cases r
    exact .nil
  | d :: ds, ks, _, _, h, g, ⟨v, r, h1, h2, h3⟩, rr => by
    have h' : (match nf d, nfs ds with
      | some k, some ks => some (k :: ks)
      | _, _ => none) = some ks := h
    split at h'
    · rename_i k ks' e1 e2
      cases h'
      have g' : (k.hashable && K2.hashables ks') = true := g
      rw [Bool.and_eq_true] at g'
      rw [h1] at rr
      cases rr with
      | cons r1 r2 => exact .cons (Den.nested I hK f d k v _ e1 g'.1 h2 r1) (Dens.nested I hK f ds ks' r _ e2 g'.2 h3 r2)
    · cases h'
end
theorem Den.keyed (I : Inv X pins σ H s) (hK : Γ.K = X.K) (f : Sub F H) {ds : List D} {q : List K2} {v : V} {u : Value} (h1 : nfs ds = some q) (h2 : K2.hashables q = true) (h3 : K2.fits q 7 = true) (x : Den Γ ι F (.tup ds) v) (r : RelV v u) :
    ∃ b, u = .ref b ∧ v = .ref b ∧ (nestedKind X.prog X.w).is s.heap (.tup (toNs q)) b := by
  obtain ⟨a, vs, rfl, _, _⟩ := id x
  cases r
  refine ⟨a, rfl, rfl, Den.nested I hK f (.tup ds) (.tup q) _ _ (by show (nfs ds).map K2.tup = _; rw [h1]; rfl) h2 x rfl, ?_⟩
  have := depths_fit q 7 h3
  show NestedKey.depthAll (toNs q) + 1 ≤ 8
  omega

abbrev PTv : List (NestedKey × Addr × V) → List (NestedKey × Addr × Value) → Prop := Paired fun (p : NestedKey × Addr × V) (q : NestedKey × Addr × Value) => p.1 = q.1 ∧ p.2.1 = q.2.1 ∧ RelV p.2.2 q.2.2
theorem DenT.keys (I : Inv X pins σ H s) (hK : Γ.K = X.K) (f : Sub F H) : ∀ {kvs : List (D × D)} {es : List (NestedKey × Addr × V)} {vs : List (NestedKey × Addr × Value)}, DenT Γ ι F kvs es → PTv es vs → ∀ x ∈ vs, (nestedKind X.prog X.w).is s.heap x.1 x.2.1
  | [], _, _, h, r, x, hx => by rw [show _ = [] from h] at r; cases r; exact nomatch hx
  | (a, b) :: kvs, _, _, ⟨k, p, v, es', h1, ⟨q, h2, h2'⟩, h3, h4, h5⟩, r, x, hx => by
    rw [h1] at r
    cases r with
    | cons r1 r2 =>
      rcases List.mem_cons.mp hx with e | hx
      · subst e
        rcases key_shape h2 with ⟨z, z1, z2⟩ | ⟨ds, q', rfl, e2, z1, z2, z3⟩
        · exact absurd z1.symm (kK_tup z q)
        · cases e2
          obtain ⟨c, e3, e4, z4⟩ := Den.keyed I hK f z1 z2 z3 h3 rfl
          cases e3
          rw [← r1.1, ← r1.2.1, h2']
          exact z4
      · exact DenT.keys I hK f h5 r2 x hx
/-- a dict whose keys are tuples, as it stands -/
theorem tdict_of (I : Inv X pins σ H s) (hK : Γ.K = X.K) (hw : Γ.w = X.w) (f : Sub F H) {a : Addr} {kvs : List (D × D)} {es : List (NestedKey × Addr × V)} (e : Rd H a (tHO Γ.w a es)) (d : DenT Γ ι F kvs es) :
    es.length ≤ sizeLine ∧ (a == sysModules) = false ∧ ∃ vs, PTv es vs ∧ s.heap.DictOfH (nestedKind X.prog X.w) a vs := by
  obtain ⟨⟨z, y, vs, r, o, en, ep, h1, h2, h3, h4, h5⟩, _⟩ := e.ok I.hok
  refine ⟨z, y, vs, r, o, en, ep, h1, h2, h3, ?_, d.keys I hK f r, h5⟩
  rw [h4, hw]
  rfl
theorem tP_new {P : Program} {w : World} {h : Heap} {a : Addr} {es : List (NestedKey × Addr × V)} {vs : List (NestedKey × Addr × Value)} (z : es.length ≤ sizeLine) (y : (a == sysModules) = false) (r : PTv es vs) (d : h.DictOfH (nestedKind P w) a vs) : tP w a es h := by
  obtain ⟨o, en, ep, h1, h2, h3, h4, _, h5⟩ := d
  exact ⟨z, y, vs, r, o, en, ep, h1, h2, h3, h4, h5⟩
theorem tHO_ok {P : Program} {w : World} {H : Hp} {h : Heap} {a : Addr} {es : List (NestedKey × Addr × V)} (x : tP w a es h) : ObjOk P w H h a (tHO w a es) := by
  obtain ⟨z, y, vs, r, o, en, ep, h1, h2, h3, h4, h5⟩ := id x
  exact ⟨x, ⟨o, h1⟩, fun g1 g2 ⟨z, y, vs, r, o, en, ep, h1, q⟩ k => ⟨z, y, vs, r, o, en, ep, k o h1, q⟩⟩

/-! ### what is found under a key -/
theorem DenK.get : ∀ {kvs : List (D × D)} {es : List (Key × V)}, DenK Γ ι F kvs es → ∀ k : Key, (∀ b, dget kvs (kK k) = some b → ∃ v, valV es k = some v ∧ Den Γ ι F b v) ∧ (dget kvs (kK k) = none → valV es k = none)
  | [], _, h, k => by
    rw [show _ = [] from h]
    exact ⟨(fun _ q => nomatch q), fun _ => rfl⟩
  | (a, b) :: r, _, ⟨j, v, es', h1, h2, h3, h4⟩, k => by
    rw [h1]
    have ih := DenK.get h4 k
    subst h2
    have e0 : dget ((kD j, b) :: r) (kK k) = if keyOf (kD j) = some (kK k) then some b else dget r (kK k) := rfl
    rw [e0, keyOf_kD]
    by_cases e : j = k
    · subst e
      rw [if_pos rfl, valV_pos (p := (j, v)) rfl]
      exact ⟨fun c q => by cases q; exact ⟨v, rfl, h3⟩, fun q => nomatch q⟩
    · rw [if_neg (fun q => e (kK_inj (Option.some.inj q))), valV_neg (p := (j, v)) e]
      exact ih
theorem DenT.get : ∀ {kvs : List (D × D)} {es : List (NestedKey × Addr × V)} {vs : List (NestedKey × Addr × Value)}, DenT Γ ι F kvs es → PTv es vs → ∀ (q : List K2), K2.hashables q = true →
    (∀ b, dget kvs (.tup q) = some b → ∃ v p u, atKey vs (.tup (toNs q)) = some (p, u) ∧ RelV v u ∧ Den Γ ι F b v) ∧ (dget kvs (.tup q) = none → atKey vs (.tup (toNs q)) = none)
  | [], _, _, h, r, q, hq => by
    rw [show _ = [] from h] at r
    cases r
    exact ⟨(fun _ q => nomatch q), fun _ => rfl⟩
  | (a, b) :: kvs, _, _, ⟨k, p, v, es', h1, ⟨q', h2, h2'⟩, h3, h4, h5⟩, r, q, hq => by
    rw [h1] at r
    cases r with
    | @cons _ y _ ys r1 r2 =>
      have ih := DenT.get h5 r2 q hq
      have e0 : dget ((a, b) :: kvs) (.tup q) = if keyOf a = some (.tup q) then some b else dget kvs (.tup q) := rfl
      rw [e0, h2]
      by_cases e : q' = q
      · subst e
        rw [if_pos rfl]
        have ey : y.1 = .tup (toNs q') := by rw [← r1.1]; exact h2'
        have e1 : atKey (y :: ys) (.tup (toNs q')) = some y.2 := by simp [atKey, List.find?_cons, ey]
        refine ⟨fun c z => ?_, (fun z => nomatch z)⟩
        cases z
        exact ⟨v, y.2.1, y.2.2, e1, r1.2.2, h4⟩
      · rw [if_neg (fun z => e (by injection (Option.some.inj z)))]
        have ey : ¬ y.1 = .tup (toNs q) := fun z => by
          rw [← r1.1] at z
          have z2 : k = .tup (toNs q) := z
          rw [h2'] at z2
          injection z2 with z3
          refine e (toNs_inj q' q ?_ hq z3)
          rcases key_shape h2 with ⟨w, w1, _⟩ | ⟨_, w, _, w1, _, w2, _⟩
          · exact absurd w1.symm (kK_tup w q')
          · cases w1; exact w2
        have e1 : atKey (y :: ys) (.tup (toNs q)) = atKey ys (.tup (toNs q)) := by simp [atKey, List.find?_cons, ey]
        rw [e1]
        exact ih

/-! ### what a store leaves -/
theorem DenK.length : ∀ {kvs : List (D × D)} {es : List (Key × V)}, DenK Γ ι F kvs es → kvs.length = es.length
  | [], _, h => by rw [show _ = [] from h]; rfl
  | (a, b) :: r, _, ⟨k, v, es', h1, h2, h3, h4⟩ => by rw [h1, List.length_cons, List.length_cons, DenK.length h4]
theorem DenT.length : ∀ {kvs : List (D × D)} {es : List (NestedKey × Addr × V)}, DenT Γ ι F kvs es → kvs.length = es.length
  | [], _, h => by rw [show _ = [] from h]; rfl
  | (a, b) :: r, _, ⟨k, p, v, es', h1, h2, h3, h4, h5⟩ => by rw [h1, List.length_cons, List.length_cons, DenT.length h5]
theorem DenK.repl {d : D} {y : V} (k : Key) (x : Den Γ ι F d y) : ∀ {kvs : List (D × D)} {es : List (Key × V)}, DenK Γ ι F kvs es →
    DenK Γ ι F (kvs.map fun p => if keyOf p.1 = some (kK k) then (p.1, d) else p) (es.map fun p => if p.1 = k then (p.1, y) else p)
  | [], _, h => by rw [show _ = [] from h]; rfl
  | (a, b) :: r, _, ⟨j, v, es', h1, h2, h3, h4⟩ => by
    rw [h1, List.map_cons, List.map_cons]
    subst h2
    simp only [keyOf_kD]
    by_cases e : j = k
    · subst e
      rw [if_pos rfl, if_pos rfl]
      exact ⟨j, y, _, rfl, rfl, x, DenK.repl j x h4⟩
    · rw [if_neg (fun q => e (kK_inj (Option.some.inj q))), if_neg e]
      exact ⟨j, v, _, rfl, rfl, h3, DenK.repl k x h4⟩
theorem DenK.snoc {k : Key} {d : D} {y : V} (x : Den Γ ι F d y) : ∀ {kvs : List (D × D)} {es : List (Key × V)}, DenK Γ ι F kvs es → DenK Γ ι F (kvs ++ [(kD k, d)]) (es ++ [(k, y)])
  | [], _, h => by rw [show _ = [] from h]; exact ⟨k, y, [], rfl, rfl, x, rfl⟩
  | (a, b) :: r, _, ⟨j, v, es', h1, h2, h3, h4⟩ => by
    rw [h1]
    exact ⟨j, v, _, rfl, h2, h3, DenK.snoc x h4⟩
theorem DenK.put {kvs : List (D × D)} {es : List (Key × V)} {k : Key} {d : D} {y : V} (h : DenK Γ ι F kvs es) (x : Den Γ ι F d y) : DenK Γ ι F (dput kvs (kD k) (kK k) d) (putK es k y) := by
  unfold dput putK
  rw [valV_any]
  cases e : dget kvs (kK k) with
  | some b =>
    obtain ⟨v, h1, _⟩ := (h.get k).1 b e
    rw [if_pos (by rfl), h1, if_pos (by rfl)]
    exact h.repl k x
  | none =>
    rw [if_neg (by simp), (h.get k).2 e, if_neg (by simp)]
    exact h.snoc x
theorem DenK.drop (k : Key) : ∀ {kvs : List (D × D)} {es : List (Key × V)}, DenK Γ ι F kvs es → DenK Γ ι F (ddel kvs (kK k)) (dropK es k)
  | [], _, h => by rw [show _ = [] from h]; rfl
  | (a, b) :: r, _, ⟨j, v, es', h1, h2, h3, h4⟩ => by
    have ih := DenK.drop k h4
    unfold ddel dropK at ih ⊢
    rw [h1, List.filter_cons, List.filter_cons]
    subst h2
    simp only [keyOf_kD]
    by_cases e : j = k
    · subst e
      rw [if_neg (by simp), if_neg (by simp)]
      exact ih
    · rw [if_pos (by simpa using fun q => e (kK_inj q)), if_pos (by simpa using e)]
      exact ⟨j, v, _, rfl, rfl, h3, ih⟩
theorem DenT.repl {q : List K2} {d : D} {y : V} {u : Value} (hq : K2.hashables q = true) (x : Den Γ ι F d y) (ry : RelV y u) : ∀ {kvs : List (D × D)} {es : List (NestedKey × Addr × V)} {vs : List (NestedKey × Addr × Value)}, DenT Γ ι F kvs es → PTv es vs →
    ∃ es', DenT Γ ι F (kvs.map fun p => if keyOf p.1 = some (.tup q) then (p.1, d) else p) es' ∧ PTv es' (vs.map (putAt (.tup (toNs q)) u))
  | [], _, _, h, r => by
    rw [show _ = [] from h] at r
    cases r
    exact ⟨[], rfl, .nil⟩
  | (a, b) :: kvs, _, _, ⟨k, p, v, es', h1, ⟨q', h2, h2'⟩, h3, h4, h5⟩, r => by
    rw [h1] at r
    cases r with
    | @cons _ z _ zs r1 r2 =>
      obtain ⟨es2, i1, i2⟩ := DenT.repl hq x ry h5 r2
      rw [List.map_cons, List.map_cons]
      simp only [h2]
      unfold putAt
      have hq' : K2.hashables q' = true := by
        rcases key_shape h2 with ⟨w, w1, _⟩ | ⟨_, w, _, w1, _, w2, _⟩
        · exact absurd w1.symm (kK_tup w q')
        · cases w1; exact w2
      by_cases e : q' = q
      · subst e
        have ez : z.1 = .tup (toNs q') := by rw [← r1.1]; exact h2'
        rw [if_pos rfl, if_pos ez]
        exact ⟨(k, p, y) :: es2, ⟨k, p, y, es2, rfl, ⟨q', h2, h2'⟩, h3, x, i1⟩, .cons ⟨r1.1, r1.2.1, ry⟩ i2⟩
      · have ez : ¬ z.1 = .tup (toNs q) := fun w => by
          rw [← r1.1] at w
          have z2 : k = .tup (toNs q) := w
          rw [h2'] at z2
          injection z2 with z3
          exact e (toNs_inj q' q hq' hq z3)
        rw [if_neg (fun w => e (by injection (Option.some.inj w))), if_neg ez]
        exact ⟨(k, p, v) :: es2, ⟨k, p, v, es2, rfl, ⟨q', h2, h2'⟩, h3, h4, i1⟩, .cons r1 i2⟩
theorem DenT.snoc {a d : D} {q : List K2} {p : Addr} {y : V} (ha : keyOf a = some (.tup q)) (xa : Den Γ ι F a (.ref p)) (x : Den Γ ι F d y) : ∀ {kvs : List (D × D)} {es : List (NestedKey × Addr × V)}, DenT Γ ι F kvs es →
    DenT Γ ι F (kvs ++ [(a, d)]) (es ++ [(.tup (toNs q), p, y)])
  | [], _, h => by rw [show _ = [] from h]; exact ⟨_, p, y, [], rfl, ⟨q, ha, rfl⟩, xa, x, rfl⟩
  | (c, b) :: r, _, ⟨j, p', v, es', h1, h2, h3, h4, h5⟩ => by
    rw [h1]
    exact ⟨j, p', v, _, rfl, h2, h3, h4, DenT.snoc ha xa x h5⟩
theorem DenT.put {kvs : List (D × D)} {es : List (NestedKey × Addr × V)} {vs : List (NestedKey × Addr × Value)} {a d : D} {q : List K2} {p : Addr} {y : V} {u : Value} (h : DenT Γ ι F kvs es) (r : PTv es vs) (ha : keyOf a = some (.tup q)) (hq : K2.hashables q = true)
    (xa : Den Γ ι F a (.ref p)) (x : Den Γ ι F d y) (ry : RelV y u) : ∃ es', DenT Γ ι F (dput kvs a (.tup q) d) es' ∧ PTv es' (storedH vs (.tup (toNs q)) p u) := by
  unfold dput storedH
  cases e : dget kvs (.tup q) with
  | some b =>
    obtain ⟨v, p', u', h1, _⟩ := (h.get r q hq).1 b e
    rw [if_pos (by rfl), h1, if_pos (by rfl)]
    exact h.repl hq x ry r
  | none =>
    rw [if_neg (by simp), (h.get r q hq).2 e, if_neg (by simp)]
    exact ⟨_, h.snoc ha xa x, Paired.snoc r ⟨rfl, rfl, ry⟩⟩
theorem DenT.drop {q : List K2} (hq : K2.hashables q = true) : ∀ {kvs : List (D × D)} {es : List (NestedKey × Addr × V)} {vs : List (NestedKey × Addr × Value)}, DenT Γ ι F kvs es → PTv es vs →
    ∃ es', DenT Γ ι F (ddel kvs (.tup q)) es' ∧ PTv es' (withoutH vs (.tup (toNs q)))
  | [], _, _, h, r => by
    rw [show _ = [] from h] at r
    cases r
    exact ⟨[], rfl, .nil⟩
  | (a, b) :: kvs, _, _, ⟨k, p, v, es', h1, ⟨q', h2, h2'⟩, h3, h4, h5⟩, r => by
    rw [h1] at r
    cases r with
    | @cons _ z _ zs r1 r2 =>
      obtain ⟨es2, i1, i2⟩ := DenT.drop hq h5 r2
      unfold ddel at i1
      unfold withoutH at i2
      unfold ddel withoutH
      rw [List.filter_cons, List.filter_cons]
      simp only [h2]
      have hq' : K2.hashables q' = true := by
        rcases key_shape h2 with ⟨w, w1, _⟩ | ⟨_, w, _, w1, _, w2, _⟩
        · exact absurd w1.symm (kK_tup w q')
        · cases w1; exact w2
      by_cases e : q' = q
      · subst e
        have ez : z.1 = .tup (toNs q') := by rw [← r1.1]; exact h2'
        rw [if_neg (by simp), if_neg (by simpa using ez)]
        exact ⟨es2, i1, i2⟩
      · have ez : ¬ z.1 = .tup (toNs q) := fun w => by
          rw [← r1.1] at w
          have z2 : k = .tup (toNs q) := w
          rw [h2'] at z2
          injection z2 with z3
          exact e (toNs_inj q' q hq' hq z3)
        rw [if_pos (by simpa using e), if_pos (by simpa using ez)]
        exact ⟨(k, p, v) :: es2, ⟨k, p, v, es2, rfl, ⟨q', h2, h2'⟩, h3, h4, i1⟩, .cons r1 i2⟩
end
end Zi
set_option maxHeartbeats 4000000
/-! Z4: operators by values. -/
namespace Zi
open PySem PySem.Spec PyProof.Rows L2

structure Gx (Γ : Gl0) (X : Cx) : Prop where
  K : Γ.K = X.K
  w : Γ.w = X.w
  u : X.A.units + 100 < cLine
theorem in1_units8 {A : Around} (h : A.units + 100 < cLine) : A.in1.units + 8 < cLine := by
  show A.units + 1 + 8 < cLine
  omega
theorem Pst.bad {α β : Type} {C : Ct} {rel : List Addr → Hp → α → β → Prop} {ι : List Addr} {F : Hp} {Q : β → Hp → Prop} {E : XK} (h : Pst C rel ι F Q E .bad) : False := h
section
variable {X : Cx} {Γ : Gl0} {base : Nat}
theorem Den.key {ι : List Addr} {F : Hp} {q : Key} {v : V} (x : Den Γ ι F (kD q) v) : v = kV q := by
  cases q with
  | inl i => exact x
  | inr z => exact x
theorem Dens.eq_nil {ι : List Addr} {F : Hp} {vs : List V} (h : Dens Γ ι F [] vs) : vs = [] := h

theorem op_binZ (g : Gx Γ X) (op : Operator) (fz : Bool) : OpR X (binaryOp op) (r2Z Γ base (binD op fz)) := by
  intro pins s σ H x y v u Q I rx ry ⟨bs, G, ι, F, m, dx, dy, E, R, hx, hy, h⟩
  unfold binD at h
  split at h
  · cases hx; cases hy; exact op_add pins s σ H _ _ v u Q I rx ry ⟨_, _, rfl, rfl, Pst.done R h rfl⟩
  · cases hx; cases hy; exact op_sub pins s σ H _ _ v u Q I rx ry ⟨_, _, rfl, rfl, Pst.done R h rfl⟩
  · split at h
    · rename_i c
      cases hx; cases hy
      refine op_mul pins s σ H _ _ v u Q I rx ry ⟨_, _, rfl, rfl, ?_, Pst.done R h rfl⟩
      exact mulOk_of c
    · exact (Pst.bad h).elim
  · split at h
    · rename_i c
      cases hx; cases hy; exact op_fdiv pins s σ H _ _ v u Q I rx ry ⟨_, _, rfl, rfl, ⟨c.1, by have := natB_ok.mp c.2; omega⟩, Pst.done R h rfl⟩
    · exact (Pst.bad h).elim
  · split at h
    · rename_i c
      cases hx; cases hy; exact op_mod pins s σ H _ _ v u Q I rx ry ⟨_, _, rfl, rfl, c, Pst.done R h rfl⟩
    · exact (Pst.bad h).elim
  · split at h
    · rename_i c
      cases hx; cases hy; exact op_pow pins s σ H _ _ v u Q I rx ry ⟨_, _, rfl, rfl, ⟨c.1, by have := natB_ok.mp c.2.1; omega, by have := natB_ok.mp c.2.2; omega⟩, Pst.done R h rfl⟩
    · exact (Pst.bad h).elim
  · split at h
    · rename_i c
      cases hx; cases hy; exact op_add_str pins s σ H _ _ v u Q I rx ry ⟨_, _, rfl, rfl, by rw [sizeLine_eq]; exact c, Pst.done R h rfl⟩
    · exact (Pst.bad h).elim
  · split at h
    · rename_i a b c
      obtain ⟨p, xs, rfl, k1, d1⟩ := hx
      obtain ⟨q, ys, rfl, k2, d2⟩ := hy
      have l1 := d1.length
      have l2 := d2.length
      refine op_catA pins s σ H _ _ v u Q I rx ry ⟨p, q, xs, ys, rfl, rfl, by rw [← g.K]; exact R.f.seqT k1, by rw [← g.K]; exact R.f.seqT k2, by rw [sizeLine_eq, ← l1, ← l2]; exact c, fun e => ?_, fun e1 e2 => ?_, fun e1 e2 p' hp => ?_⟩
      · subst e
        have ea : a = [] := List.length_eq_zero_iff.mp l1
        subst ea
        exact Pst.done R h ⟨q, ys, rfl, k2, d2⟩
      · subst e2
        have eb : b = [] := List.length_eq_zero_iff.mp l2
        subst eb
        rw [List.append_nil] at h
        exact Pst.done R h ⟨p, xs, rfl, k1, d1⟩
      · have e : Ext ι F ι (upd F p' (.tup (xs ++ ys))) := Ext.alloc hp R.f
        exact h (.ref p') ι _ _ e (R.frozen hp) ⟨p', _, rfl, .of upd_same, (d1.append d2).mono e⟩
    · exact (Pst.bad h).elim
  · split at h
    · rename_i a b e1 e2
      obtain ⟨p, xs, rfl, k1, d1⟩ := R.getW e1 hx
      obtain ⟨q, ys, rfl, k2, d2⟩ := R.getW e2 hy
      obtain ⟨hz, hq⟩ := Pst.newL R h (d1.append d2)
      exact op_cat pins s σ H _ _ v u Q I rx ry ⟨p, q, xs, ys, rfl, rfl, k1, k2, by simpa using hz, hq⟩
    · exact (Pst.bad h).elim
  · exact (Pst.bad h).elim

/-! ### comparisons -/
def rCmp (Γ : Gl0) (base : Nat) (op : CmpOp) : R2 := fun x y H Q => ∃ bs G ι F m dx dy k, HR Γ base bs G ι F m H ∧ Den Γ ι F dx x ∧ Den Γ ι F dy y ∧ cmpD op dx dy m = some k ∧ Q (.bl k) H
theorem isNon_ok {ι : List Addr} {F : Hp} {d : D} {v : V} (x : Den Γ ι F d v) : isNon d = decide (v = .non) := by
  cases d with
  | non => rw [show v = .non from x]; rfl
  | bl b => rw [show v = .bl b from x]; rfl
  | int i => rw [show v = .int i from x]; rfl
  | str z => rw [show v = .str z from x]; rfl
  | tup ds => obtain ⟨a, vs, rfl, _⟩ := x; rfl
  | lst ds => obtain ⟨a, vs, rfl, _⟩ := x; rfl
  | kls ds => obtain ⟨a, vs, rfl, _⟩ := x; rfl
  | dct t kvs => obtain ⟨a, rfl, _⟩ := x; rfl
  | ins c fs => obtain ⟨a, dx, vs, rfl, _⟩ := x; rfl
  | ref i => obtain ⟨a, rfl, _⟩ := x; rfl
theorem any_norm {d : PyData} (hd : d.canLay0 = true) : ∀ (ds : List PyData), PyData.canLayAll0 ds = true → (ds.any fun z => PyData.eqv z d) = decide (normP d ∈ normPs ds)
  | [], _ => rfl
  | z :: zs, h => by
    simp only [PyData.canLayAll0, Bool.and_eq_true] at h
    rw [List.any_cons, any_norm hd zs h.2, eqv_norm z d h.1 hd, decide_beq]
    show _ = decide (normP d ∈ normP z :: normPs zs)
    by_cases e : normP z = normP d
    · rw [decide_eq_true e, Bool.true_or]
      exact (decide_eq_true (by rw [e]; exact List.mem_cons_self)).symm
    · rw [decide_eq_false e, Bool.false_or]
      by_cases q : normP d ∈ normPs zs
      · rw [decide_eq_true q, decide_eq_true (List.mem_cons_of_mem _ q)]
      · rw [decide_eq_false q, decide_eq_false (fun w => (List.mem_cons.mp w).elim (fun z => e z.symm) q)]
/-- what «in» says of a sequence of plain data -/
theorem in_seq {bs : List Nat} {G : Hp} {ι : List Addr} {F : Hp} {m : MH} {H : Hp} (R : HR Γ base bs G ι F m H) {dx dy : D} {x y : V} {ds : List D} {k : K2} {ks : List K2} (hx : Den Γ ι F dx x) (hy : Den Γ ι F dy y) (e : getS m dy = some ds) (e1 : nf dx = some k) (e2 : nfs ds = some ks)
    (c : k.fit 60 = true ∧ K2.fits ks 60 = true) : ∃ (p : PyData) (ps : List PyData), Dp Γ.K H x p ∧ (Dp Γ.K H y (.list ps) ∨ Dp Γ.K H y (.tuple ps)) ∧ p.canLay0 = true ∧ PyData.canLayAll0 ps = true ∧ p.depth ≤ 60 ∧ (ps.any fun z => PyData.eqv z p) = decide (k ∈ ks) := by
  obtain ⟨p, h1, h2⟩ := dat_nf dx k e1
  obtain ⟨h3, h4⟩ := fit_lay dx p 60 h1 (by rw [h2]; exact c.1)
  obtain ⟨ps, q1, q2⟩ := dats_nf ds ks e2
  obtain ⟨q3, q4⟩ := fits_lay ds ps 60 q1 (by rw [q2]; exact c.2)
  obtain ⟨a, vs, rfl, hs, hv⟩ := R.getS e hy
  have hp := Dens.dp R.f ds ps vs q1 hv
  refine ⟨p, ps, Den.dp R.f dx p x h1 hx, ?_, h3, q3, h4, by rw [any_norm h3 ps q3, h2, q2]⟩
  rcases hs with hs | hs
  · exact .inl (.lst hs hp)
  · exact .inr (.tup hs hp)
theorem op_cmpZ (g : Gx Γ X) (op : CmpOp) : OpR X (compareOp op) (rCmp Γ base op) := by
  intro pins s σ H x y v u Q I rx ry ⟨bs, G, ι, F, m, dx, dy, k, R, hx, hy, h, q⟩
  have hu := g.u
  -- «in», both ways
  have isIn : ∀ (neg : Bool) (k : Bool), inD dx dy m = some k → Q (.bl (if neg then !k else k)) H → wpAny (model X.prog X.w) X.A (compareOp (if neg then .NotIn else .In) v u) (EP X pins σ Q) X.xe s := by
    clear h q
    intro neg k h q
    unfold inD at h
    split at h
    · rename_i t
      split at h
      · rename_i z
        split at h
        · rename_i c
          cases hx; cases hy
          cases h
          have ez : z = ⟨#[z.cps.getD 0 0]⟩ := by
            obtain ⟨cps⟩ := z
            have c' : cps.size = 1 := c
            obtain ⟨a, rfl⟩ : ∃ a, cps = #[a] := Array.size_eq_one_iff.mp c'
            rfl
          cases neg with
          | true => exact op_notIn_sign pins s σ H _ _ v u Q I rx ry ⟨_, t, congrArg V.str ez, rfl, q⟩
          | false => exact op_in_sign pins s σ H _ _ v u Q I rx ry ⟨_, t, congrArg V.str ez, rfl, q⟩
        · cases h
      · cases h
    · split at h
      · rename_i ds e
        split at h
        · rename_i kk ks e1 e2
          split at h
          · rename_i c
            cases h
            obtain ⟨p, ps, h1, h2, h3, h4, h5, h6⟩ := in_seq R hx hy e e1 e2 c
            rw [g.K] at h1 h2
            obtain ⟨as, r1⟩ := Dp.reads I p x v h1 rx
            have room : X.A.units + 1 + min (PyData.depthAll ps) p.depth < cLine := by omega
            rw [← h6] at q
            rcases h2 with h2 | h2
            · obtain ⟨bs', r2⟩ := Dp.reads I (.list ps) y u h2 ry
              cases neg with
              | true => exact SeqAt.notIn_list_reads r2 r1 h4 h3 room ⟨.bl _, H, I, rfl, q⟩
              | false => exact SeqAt.in_list_reads r2 r1 h4 h3 room ⟨.bl _, H, I, rfl, q⟩
            · obtain ⟨bs', r2⟩ := Dp.reads I (.tuple ps) y u h2 ry
              cases neg with
              | true => exact SeqAt.notIn_tuple_reads r2 r1 h4 h3 room ⟨.bl _, H, I, rfl, q⟩
              | false => exact SeqAt.in_tuple_reads r2 r1 h4 h3 room ⟨.bl _, H, I, rfl, q⟩
          · cases h
        · cases h
      · split at h
        · rename_i t kvs e
          obtain ⟨kk, e1, e2⟩ := Option.map_eq_some_iff.mp h
          subst e2
          obtain ⟨a, o, rfl, ha, hd⟩ := R.getK e hy
          cases ry
          rcases hd with ⟨rfl, es, rfl, hd⟩ | ⟨rfl, es, rfl, hd⟩
          · obtain ⟨qk, rfl, rfl⟩ := keyFor_f e1
            have ex := Den.key hx
            subst ex
            have same : (dget kvs (kK qk)).isSome = (valV es qk).isSome := by
              cases z : dget kvs (kK qk) with
              | some b => obtain ⟨w', z1, _⟩ := (hd.get qk).1 b z; rw [z1] <;> rfl
              | none => rw [(hd.get qk).2 z] <;> rfl
            rw [same] at q
            cases neg with
            | true => exact d_notIn (by omega) I (.inl ⟨_, _, ha, rfl, rfl⟩) rx fun s' I' => ⟨.bl _, H, I', rfl, q⟩
            | false => exact d_in (by omega) I (.inl ⟨_, _, ha, rfl, rfl⟩) rx fun s' I' => ⟨.bl _, H, I', rfl, q⟩
          · obtain ⟨ds, qk, rfl, rfl, _, n1, n2, n3⟩ := keyFor_t e1
            obtain ⟨z1, z2, vs, pt, dd⟩ := tdict_of I g.K g.w R.f ha hd
            obtain ⟨b, rfl, rfl, key⟩ := Den.keyed I g.K R.f n1 n2 n3 hx rx
            have same : (dget kvs (.tup qk)).isSome = (atKey vs (.tup (toNs qk))).isSome := by
              cases z : dget kvs (.tup qk) with
              | some b => obtain ⟨w', p', u', z1, _⟩ := (hd.get pt qk n2).1 b z; rw [z1] <;> rfl
              | none => rw [(hd.get pt qk n2).2 z] <;> rfl
            rw [same] at q
            cases neg with
            | true => exact wpAny_notIn_heap (in1_units8 hu) key z2 dd ⟨.bl _, H, I.tok _, rfl, q⟩
            | false => exact wpAny_in_heap (in1_units8 hu) key z2 dd ⟨.bl _, H, I.tok _, rfl, q⟩
        · cases h
  have isEq : ∀ (neg : Bool) (k : Bool), cmpD.eqH m dx dy = some k → Q (.bl (if neg then !k else k)) H → wpAny (model X.prog X.w) X.A (compareOp (if neg then .NotEq else .Eq) v u) (EP X pins σ Q) X.xe s := by
    clear h q
    intro neg k h q
    unfold cmpD.eqH at h
    split at h
    · rename_i a b e1 e2
      unfold eqD at h
      split at h
      · rename_i p r e3 e4
        split at h
        · rename_i c
          cases h
          obtain ⟨pa, h1, h2, h3, h4⟩ := R.dat e1 e3 c.1 hx
          obtain ⟨pb, k1, k2, k3, k4⟩ := R.dat e2 e4 c.2 hy
          rw [g.K] at h1 k1
          have e : decide (p = r) = PyData.eqv pa pb := by rw [eqv_norm pa pb h3 k3, decide_beq, h2, k2]
          rw [e] at q
          cases neg with
          | true => exact op_neD (by omega) pins s σ H x y v u Q I rx ry ⟨pa, pb, h1, k1, h4, k4, q⟩
          | false => exact op_eqD (by omega) pins s σ H x y v u Q I rx ry ⟨pa, pb, h1, k1, h4, k4, q⟩
        · cases h
      · cases h
    · cases h
  cases op with
  | Eq => exact isEq false k h q
  | NotEq =>
    obtain ⟨j, e1, e2⟩ := Option.map_eq_some_iff.mp (show (cmpD.eqH m dx dy).map not = some k from h)
    subst e2
    exact isEq true j e1 q
  | In => exact isIn false k h q
  | NotIn =>
    obtain ⟨j, e1, e2⟩ := Option.map_eq_some_iff.mp (show (inD dx dy m).map not = some k from h)
    subst e2
    exact isIn true j e1 q
  | Is =>
    unfold cmpD at h
    simp only at h
    split at h
    · cases hy; cases h
      exact op_isN pins s σ H _ _ v u Q I rx ry ⟨rfl, by rw [← isNon_ok hx]; exact q⟩
    · cases h
  | IsNot =>
    unfold cmpD at h
    simp only at h
    split at h
    · cases hy; cases h
      exact op_notN pins s σ H _ _ v u Q I rx ry ⟨rfl, by rw [← isNon_ok hx]; exact q⟩
    · cases h
  | Lt =>
    unfold cmpD at h
    simp only at h
    split at h
    · cases hx; cases hy; cases h
      exact op_lt pins s σ H _ _ v u Q I rx ry ⟨_, _, rfl, rfl, q⟩
    · cases hx; cases hy; cases h
      exact op_lt_str pins s σ H _ _ v u Q I rx ry ⟨_, _, rfl, rfl, q⟩
    · cases h
  | LtE =>
    unfold cmpD at h
    simp only at h
    split at h
    · cases hx; cases hy; cases h
      exact op_le pins s σ H _ _ v u Q I rx ry ⟨_, _, rfl, rfl, q⟩
    · cases hx; cases hy; cases h
      exact op_le_str pins s σ H _ _ v u Q I rx ry ⟨_, _, rfl, rfl, q⟩
    · cases h
  | Gt =>
    unfold cmpD at h
    simp only at h
    split at h
    · cases hx; cases hy; cases h
      exact op_gt pins s σ H _ _ v u Q I rx ry ⟨_, _, rfl, rfl, q⟩
    · cases hx; cases hy; cases h
      exact op_gt_str pins s σ H _ _ v u Q I rx ry ⟨_, _, rfl, rfl, q⟩
    · cases h
  | GtE =>
    unfold cmpD at h
    simp only at h
    split at h
    · cases hx; cases hy; cases h
      exact op_ge pins s σ H _ _ v u Q I rx ry ⟨_, _, rfl, rfl, q⟩
    · cases hx; cases hy; cases h
      exact op_ge_str pins s σ H _ _ v u Q I rx ry ⟨_, _, rfl, rfl, q⟩
    · cases h

/-! ### subscripts -/
theorem ixOf_eq (n : Nat) (i : Int) : ixOf n i = ixN n i := rfl
theorem atI_of {α : Type} {xs : List α} {i : Int} {j : Nat} {v : α} (h : ixOf xs.length i = some j) (e : xs[j]? = some v) : atI xs i = some v := by
  unfold atI
  rw [← ixOf_eq, h]
  exact e
def rSub (Γ : Gl0) (base : Nat) : R2 := fun x y H Q => ∃ bs G ι F m dx dy d, HR Γ base bs G ι F m H ∧ Den Γ ι F dx x ∧ Den Γ ι F dy y ∧ subD dx dy m = some d ∧ ∀ v, Den Γ ι F d v → Q v H
theorem ix_subZ (g : Gx Γ X) : IxR X (rSub Γ base) := by
  intro value slice pins s σ H x y v u Q I rx ry ⟨bs, G, ι, F, m, dx, dy, d, R, hx, hy, h, q⟩ hs
  have hu := g.u
  unfold subD at h
  split at h
  · rename_i ds k e
    obtain ⟨j, e1, e2⟩ := Option.bind_eq_some_iff.mp h
    obtain ⟨a, vs, rfl, k1, d1⟩ := R.getS e hx
    obtain ⟨z, hz, hd⟩ := d1.get e2
    cases hy
    have at_ : atI vs k = some z := atI_of (by rw [← d1.length]; exact e1) hz
    rw [g.K] at k1
    rcases k1 with k1 | k1
    · exact ix_list value slice pins s σ H _ _ v u Q I rx ry ⟨a, vs, k, z, rfl, rfl, k1, at_, q z hd⟩ hs
    · exact ix_tup value slice pins s σ H _ _ v u Q I rx ry ⟨a, vs, k, z, rfl, rfl, k1, at_, q z hd⟩ hs
  · split at h
    · rename_i z k _
      split at h
      · rename_i c
        obtain ⟨j, e1, e2⟩ := Option.bind_eq_some_iff.mp h
        obtain ⟨cc, e3, e4⟩ := Option.map_eq_some_iff.mp e2
        subst e4
        cases hx; cases hy
        exact ix_str value slice pins s σ H _ _ v u Q I rx ry ⟨z, k, cc, rfl, rfl, by rw [sizeLine_eq]; exact c, atI_of e1 e3, q _ rfl⟩ hs
      · cases h
    · split at h
      · rename_i t kvs e
        obtain ⟨kk, e1, e2⟩ := Option.bind_eq_some_iff.mp h
        obtain ⟨a, o, rfl, ha, hd⟩ := R.getK e hx
        cases rx
        rcases hd with ⟨rfl, es, rfl, hd⟩ | ⟨rfl, es, rfl, hd⟩
        · obtain ⟨qk, rfl, rfl⟩ := keyFor_f e1
          have ex := Den.key hy
          subst ex
          obtain ⟨w', z1, z2⟩ := (hd.get qk).1 d e2
          exact tail_any (dict_typeIs I (.inl ⟨_, qk, ha, rfl, rfl⟩)) PySem.F.slot_dict_getitem.lookup (d_getItem (by omega) I (.inl ⟨_, _, ha, rfl, z1.symm⟩) ry fun w2 s' I' r' => ⟨w', H, I', r', q w' z2⟩) hs
        · obtain ⟨ds, qk, rfl, rfl, _, n1, n2, n3⟩ := keyFor_t e1
          obtain ⟨z1, z2, vs, pt, dd⟩ := tdict_of I g.K g.w R.f ha hd
          obtain ⟨b, rfl, rfl, key⟩ := Den.keyed I g.K R.f n1 n2 n3 hy ry
          obtain ⟨w', p', u', y1, y2, y3⟩ := (hd.get pt qk n2).1 d e2
          exact tail_any dd.typeIs PySem.F.slot_dict_getitem.lookup (wpAny_getItem_heap (in1_units8 hu) key dd y1 ⟨w', H, I.tok _, y2, q w' y3⟩) hs
      · cases h
  · cases h
end
end Zi
set_option maxHeartbeats 4000000
/-! Z5: slices, built-ins by values. -/
namespace Zi
open PySem PySem.Spec PyProof.Rows L2
section
variable {X : Cx} {Γ : Gl0} {base : Nat}
theorem cutIx_eq (n d : Nat) (o : Option Int) : cutIx n d o = HT.sIx n d o := by cases o <;> rfl
theorem Dens.cutL {ι : List Addr} {F : Hp} {ds : List D} {vs : List V} (h : Dens Γ ι F ds vs) (l u : Option Int) : Dens Γ ι F (Zi.cutL ds l u) (cutV vs l u) := by
  unfold Zi.cutL cutV
  rw [cutIx_eq, cutIx_eq, h.length]
  exact (h.drop _).take _
def rSlZ (Γ : Gl0) (base : Nat) (fz : Bool) : V → Option Int → Option Int → Hp → VK → Prop := fun x lo hi H Q => ∃ bs G ι F m dx E, HR Γ base bs G ι F m H ∧ Den Γ ι F dx x ∧ Pst ⟨Γ, base, bs, G⟩ (Den Γ) ι F Q E (slcI fz dx lo hi m)
theorem sl_Z (g : Gx Γ X) (fz : Bool) : SlR X (rSlZ Γ base fz) := by
  intro pins s σ H x v vl vu lo hi sl Q I rx hs pl pu ⟨bs, G, ι, F, m, dx, E, R, hx, h⟩
  unfold slcI at h
  split at h
  · rename_i ds
    obtain ⟨a, vs, rfl, k1, d1⟩ := hx
    refine sl_tupA pins s σ H _ v vl vu lo hi sl Q I rx hs pl pu ⟨a, vs, rfl, by rw [← g.K]; exact R.f.seqT k1, fun q => ?_, fun q p hp => ?_⟩
    · have e : Zi.cutL ds lo hi = ds := by
        unfold Zi.cutL
        rw [cutIx_eq, cutIx_eq, d1.length, q.1, q.2]
        simp [← d1.length]
      rw [e] at h
      exact Pst.done R h ⟨a, vs, rfl, k1, d1⟩
    · have e : Ext ι F ι (upd F p (.tup (cutV vs lo hi))) := Ext.alloc hp R.f
      exact h (.ref p) ι _ _ e (R.frozen hp) ⟨p, _, rfl, .of upd_same, (d1.cutL lo hi).mono e⟩
  · split at h
    · rename_i z c
      cases hx
      refine sl_str pins s σ H _ v vl vu lo hi sl Q I rx hs pl pu ⟨z, rfl, by rw [sizeLine_eq]; exact c, ?_⟩
      refine Pst.done R h ?_
      show V.str (cutS z lo hi) = _
      unfold cutS Zi.cutL
      rw [cutIx_eq, cutIx_eq]
      rfl
    · exact (Pst.bad h).elim
  · split at h
    · rename_i ds e
      obtain ⟨a, vs, rfl, k1, d1⟩ := R.getL e hx
      obtain ⟨hz, hq⟩ := Pst.newL R h (d1.cutL lo hi)
      exact sl_list pins s σ H _ v vl vu lo hi sl Q I rx hs pl pu ⟨a, vs, rfl, by rw [← g.K]; exact k1, hq⟩
    · exact (Pst.bad h).elim

/-! ### calls of built-ins -/
def rBl (Γ : Gl0) (base : Nat) (b : Bl) (fz : Bool) : List V → Hp → VK → Prop := rsZ Γ base (bltD b fz)
theorem dict_lenZ (g : Gx Γ X) {pins : List (Addr × Obj)} {σ : L2.St} {s : Shared} {bs : List Nat} {G : Hp} {ι : List Addr} {F : Hp} {m : MH} {H : Hp} {Q : VK} (I : Inv X pins σ H s) (R : HR Γ base bs G ι F m H) {a : Addr} {t : Bool} {kvs : List (D × D)} {o : HO}
    (ha : Rd H a o) (hd : DctDen Γ ι F a t kvs o) (q : Q (.int kvs.length) H) : wpAny (model X.prog X.w) X.A (call (.builtin "len") [.ref a]) (EP X pins σ Q) X.xe s := by
  rcases hd with ⟨rfl, es, rfl, hd⟩ | ⟨rfl, es, rfl, hd⟩
  · refine d_len I ha fun t s' I' => ⟨.int es.length, H, I', ⟨_, rfl⟩, ?_⟩
    rw [← hd.length]; exact q
  · obtain ⟨z1, z2, vs, pt, dd⟩ := tdict_of I g.K g.w R.f ha hd
    have el : kvs.length = vs.length := hd.length.trans (Paired.length pt)
    have z1' : vs.length ≤ 16777216 := by rw [← sizeLine_eq, ← el, hd.length]; exact z1
    refine call_len_dictH z2 dd (by omega) ⟨.int vs.length, H, I.tok _, ⟨_, rfl⟩, ?_⟩
    rw [← el]; exact q

/-! ### sorting -/
theorem insBy_perm {α : Type} (le : α → α → Bool) (x : α) : ∀ l : List α, (insBy le x l).Perm (x :: l)
  | [] => .refl _
  | y :: r => by
    unfold insBy
    split
    · exact .refl _
    · exact ((insBy_perm le x r).cons y).trans (.swap x y r)
theorem isortBy_perm {α : Type} (le : α → α → Bool) : ∀ l : List α, (isortBy le l).Perm l
  | [] => .refl _
  | x :: r => (insBy_perm le x _).trans ((isortBy_perm le r).cons x)
theorem insBy_sorted {α : Type} {le : α → α → Bool} (h : PySem.W.TotalLe le) (x : α) : ∀ l : List α, l.Pairwise (fun a b => le a b = true) → (insBy le x l).Pairwise (fun a b => le a b = true)
  | [], _ => by simp [insBy]
  | y :: r, p => by
    unfold insBy
    have p' := List.pairwise_cons.mp p
    split
    · rename_i c
      refine List.pairwise_cons.mpr ⟨fun z hz => ?_, p⟩
      rcases List.mem_cons.mp hz with rfl | hz
      · exact c
      · exact h.trans _ _ _ c (p'.1 z hz)
    · rename_i c
      refine List.pairwise_cons.mpr ⟨fun z hz => ?_, insBy_sorted h x r p'.2⟩
      rcases List.mem_cons.mp ((insBy_perm le x r).mem_iff.mp hz) with rfl | hz
      · exact (h.total _ _).resolve_left c
      · exact p'.1 z hz
theorem isortBy_sorted {α : Type} {le : α → α → Bool} (h : PySem.W.TotalLe le) : ∀ l : List α, (isortBy le l).Pairwise (fun a b => le a b = true)
  | [] => .nil
  | x :: r => insBy_sorted h x _ (isortBy_sorted h r)
theorem insBy_filter {α : Type} {le : α → α → Bool} (h : PySem.W.TotalLe le) (c x : α) : ∀ l : List α, (insBy le x l).filter (PySem.W.sameRank le c) = (x :: l).filter (PySem.W.sameRank le c)
  | [] => rfl
  | y :: r => by
    unfold insBy
    split
    · rfl
    · rename_i q
      have ih := insBy_filter h c x r
      rw [List.filter_cons, ih, List.filter_cons, List.filter_cons, List.filter_cons]
      cases e1 : PySem.W.sameRank le c x with
      | false => simp
      | true =>
        cases e2 : PySem.W.sameRank le c y with
        | false => simp
        | true =>
          exfalso
          unfold PySem.W.sameRank at e1 e2
          rw [Bool.and_eq_true] at e1 e2
          exact q (h.trans _ c _ (by first | exact e1.2 | exact e1.1) (by first | exact e2.1 | exact e2.2))
theorem isortBy_filter {α : Type} {le : α → α → Bool} (h : PySem.W.TotalLe le) (c : α) : ∀ l : List α, (isortBy le l).filter (PySem.W.sameRank le c) = l.filter (PySem.W.sameRank le c)
  | [] => rfl
  | x :: r => by
    unfold isortBy
    rw [insBy_filter h, List.filter_cons, List.filter_cons, isortBy_filter h c r]
theorem isortBy_merge {α : Type} {le : α → α → Bool} (h : PySem.W.TotalLe le) (l : List α) : isortBy le l = l.mergeSort le := PySem.W.sort_unique h (isortBy_sorted h l) fun c => isortBy_filter h c l
theorem isortBy_map {α β : Type} {r : α → α → Bool} {s : β → β → Bool} (f : α → β) (h : ∀ a b, r a b = s (f a) (f b)) : ∀ l : List α, (isortBy r l).map f = isortBy s (l.map f)
  | [] => rfl
  | x :: l => by
    have ins : ∀ l : List α, (insBy r x l).map f = insBy s (f x) (l.map f) := by
      intro l
      induction l with
      | nil => rfl
      | cons y t ih =>
        unfold insBy
        rw [List.map_cons, h x y]
        show _ = if s (f x) (f y) = true then f x :: f y :: t.map f else f y :: insBy s (f x) (t.map f)
        cases s (f x) (f y) with
        | true => rfl
        | false => exact congrArg (f y :: ·) ih
    show (insBy r x (isortBy r l)).map f = insBy s (f x) (isortBy s (l.map f))
    rw [ins, isortBy_map f h l]
abbrev B3 := V × (PyData × D)
def encB (b : B3) : PyData := b.2.1
def leB : B3 → B3 → Bool := PySem.W.dataLe false encB
theorem leB_total : PySem.W.TotalLe leB := PySem.W.sortLe_total (PyProof.Rows.listOrd PyProof.Rows.itemOrd) false (fun b => PySem.W.keyToks (encB b))
theorem Dens.of_pairs {ι : List Addr} {F : Hp} : ∀ (bs : List B3), (∀ b ∈ bs, Den Γ ι F b.2.2 b.1) → Dens Γ ι F (bs.map (·.2.2)) (bs.map (·.1))
  | [], _ => rfl
  | b :: bs, h => ⟨b.1, bs.map (·.1), rfl, h b List.mem_cons_self, Dens.of_pairs bs fun c hc => h c (List.mem_cons_of_mem _ hc)⟩
def zip3 (vs : List V) (ps : List PyData) (ds : List D) : List B3 := vs.zip (ps.zip ds)
/-- the facts that sorting asks of a row of values -/
theorem sort_each {ι : List Addr} {F : Hp} {pins : List (Addr × Obj)} {σ : L2.St} {H : Hp} {s : Shared} (hK : Γ.K = X.K) (I : Inv X pins σ H s) (f : Sub F H) : ∀ (ds : List D) (ps : List PyData) (vs : List V) (us : List Value), datsOf ds = some ps → Dens Γ ι F ds vs → Vals vs us →
    PySem.W.EachIs (fun u (b : B3) => RelV b.1 u) us (zip3 vs ps ds) ∧ PySem.W.EachIs (fun u (b : B3) => ∃ as, Reads s.heap u (encB b) as) us (zip3 vs ps ds) ∧ (∀ b ∈ zip3 vs ps ds, Den Γ ι F b.2.2 b.1) ∧ (zip3 vs ps ds).map encB = ps ∧ (zip3 vs ps ds).map (·.2) = ps.zip ds ∧ (zip3 vs ps ds).length = ds.length
  | [], ps, vs, us, h, x, r => by
    cases h
    rw [show vs = [] from x] at r ⊢
    cases r
    exact ⟨.nil, .nil, (fun b hb => nomatch hb), rfl, rfl, rfl⟩
  | d :: ds, ps, vs, us, h, ⟨v, vr, h1, h2, h3⟩, r => by
    have h' : (match datOf d, datsOf ds with
      | some k, some ks => some (k :: ks)
      | _, _ => none) = some ps := h
    split at h'
    · rename_i p ps' e1 e2
      cases h'
      rw [h1] at r ⊢
      cases r with
      | cons r1 r2 =>
        obtain ⟨i1, i2, i3, i4, i5, i6⟩ := sort_each hK I f ds ps' vr _ e2 h3 r2
        have e0 : zip3 (v :: vr) (p :: ps') (d :: ds) = (v, (p, d)) :: zip3 vr ps' ds := rfl
        rw [e0]
        refine ⟨.cons r1 i1, .cons (Dp.reads I p v _ (by rw [← hK]; exact Den.dp f d p v e1 h2) r1) i2, fun b hb => ?_, ?_, ?_, ?_⟩
        · rcases List.mem_cons.mp hb with rfl | hb
          · exact h2
          · exact i3 b hb
        · rw [List.map_cons, i4]; rfl
        · rw [List.map_cons, i5]; rfl
        · rw [List.length_cons, i6, List.length_cons]
    · cases h'
theorem sortable_ok {ps : List PyData} (h : sortable ps = true) : PySem.W.AllAlike ps ∧ PySem.W.Sortable ps ∧ ∀ p ∈ ps, p.depth ≤ 60 := by
  unfold sortable at h
  rw [Bool.and_eq_true, Bool.and_eq_true, Bool.or_eq_true] at h
  refine ⟨fun p hp q hq => List.all_eq_true.mp (List.all_eq_true.mp h.1.1 p hp) q hq, ?_, fun p hp => of_decide_eq_true (List.all_eq_true.mp h.2 p hp)⟩
  rcases h.1.2 with k | k
  · exact .inl fun p hp => by
      have := List.all_eq_true.mp k p hp
      cases p with
      | tuple xs => cases xs with
        | nil => cases this
        | cons x r => exact ⟨x, r, rfl⟩
      | _ => cases this
  · exact .inr fun p hp => by
      have := List.all_eq_true.mp k p hp
      cases p with
      | tuple xs => cases this
      | none => cases this
      | _ => exact ⟨(fun q => nomatch q), fun _ q => nomatch q⟩
/-- sorted, from what a list holds -/
theorem sortD_get {ds es : List D} (h : sortD ds = some es) : ∃ ps, datsOf ds = some ps ∧ sortable ps = true ∧ ∀ vs : List V, (zip3 vs ps ds).map (·.2) = ps.zip ds → es = ((isortBy leB (zip3 vs ps ds)).map (·.2.2)) := by
  unfold sortD at h
  split at h
  · rename_i ps e
    split at h
    · rename_i c
      cases h
      refine ⟨ps, e, c, fun vs q => ?_⟩
      have : (isortBy leB (zip3 vs ps ds)).map (·.2) = isortBy leP (ps.zip ds) := by
        rw [isortBy_map (r := leB) (s := leP) (fun b : B3 => b.2) (fun _ _ => rfl), q]
      rw [← this, List.map_map]
      rfl
    · cases h
  · cases h
theorem vals_each : ∀ {us : List Value} {bs : List B3}, PySem.W.EachIs (fun u (b : B3) => RelV b.1 u) us bs → Vals (bs.map (·.1)) us
  | _, _, .nil => .nil
  | _, _, .cons h t => .cons h (vals_each t)
theorem sorted_listZ (g : Gx Γ X) {ι : List Addr} {F : Hp} {bs : List Nat} {G : Hp} {m : MH} {fz : Bool} {pins : List (Addr × Obj)} {σ : L2.St} {H : Hp} {s : Shared} {E : XK} {Q : VK} (I : Inv X pins σ H s) (R : HR Γ base bs G ι F m H) {a : Addr} {vs : List V} {ds es : List D} (hs : SqL X.K H a vs) (x : Dens Γ ι F ds vs)
    (e : sortD ds = some es) (h : Pst ⟨Γ, base, bs, G⟩ (Den Γ) ι F Q E (mkL fz es m)) : wpAny (model X.prog X.w) X.A (call (.builtin "sorted") [.ref a]) (EP X pins σ Q) X.xe s := by
  obtain ⟨its, rv, hl, hz⟩ := I.list hs
  obtain ⟨ps, e1, e2, e3⟩ := sortD_get e
  obtain ⟨k1, k2, k3, k4, k5, k6⟩ := sort_each g.K I R.f ds ps vs its e1 x rv
  obtain ⟨c1, c2, c3⟩ := sortable_ok e2
  have hu := g.u
  refine PySem.W.sorted_data hl.isList k1 k2 (by rw [k4]; exact c1) (by rw [k4]; exact c2) (by rw [k6, x.length]; exact hz) (fun b hb => ?_) fun out ho eo => ?_
  · have := c3 (encB b) (by rw [← k4]; exact List.mem_map_of_mem hb)
    omega
  · have eo' : PySem.W.EachIs (fun u (b : B3) => RelV b.1 u) out (isortBy leB (zip3 vs ps ds)) := by
      rw [isortBy_merge leB_total]; exact eo
    have dn : Dens Γ ι F es ((isortBy leB (zip3 vs ps ds)).map (·.1)) := by
      rw [e3 vs k5]
      exact Dens.of_pairs _ fun b hb => k3 b ((isortBy_perm leB _).mem_iff.mp hb)
    obtain ⟨hz2, hq⟩ := Pst.newL R h dn
    obtain ⟨ep, he'⟩ := PyProof.Rows.sortedAll_at s.heap its out.toArray
    exact ⟨.ref _, upd H (s.heap.objs.size + 1) (.lst ((isortBy leB (zip3 vs ps ds)).map (·.1))), I.laid (t' := s.toks) (fun _ _ => PyProof.Rows.sortedAll_old) (Nat.le_succ _) ⟨hz2, out, ep, vals_each eo', he'⟩, rfl, hq _ (I.hok.fresh (Nat.le_succ _))⟩
end
end Zi
set_option maxHeartbeats 4000000
/-! Z5b: dicts as rows of keys; built-ins. -/
namespace Zi
open PySem PySem.Spec PyProof.Rows L2
mutual
theorem reads_lt {h : Heap} : ∀ {v : Value} {d : PyData} {as : List Addr}, Reads h v d as → ∀ x ∈ as, x < h.objs.size
  | _, _, _, .none, x, hx => nomatch hx
  | _, _, _, .bool _, x, hx => nomatch hx
  | _, _, _, .int _ _, x, hx => nomatch hx
  | _, _, _, .str _ _, x, hx => nomatch hx
  | _, _, _, .list ho _ _ r, x, hx => by
    rcases List.mem_cons.mp hx with rfl | hx
    · exact Heap.lt_size ho
    · exact reads_lt_all r x hx
  | _, _, _, .tuple ho _ _ r, x, hx => reads_lt_all r x hx
  | _, _, _, .dict ho _ _ r r2, x, hx => by
    rcases List.mem_append.mp hx with hx | hx
    · rcases List.mem_cons.mp hx with rfl | hx
      · exact Heap.lt_size ho
      · exact reads_lt_all r x hx
    · exact reads_lt_all r2 x hx
theorem reads_lt_all {h : Heap} : ∀ {vs : List Value} {ds : List PyData} {as : List Addr}, ReadsAll h vs ds as → ∀ x ∈ as, x < h.objs.size
  | _, _, _, .nil, x, hx => nomatch hx
  | _, _, _, .cons r t, x, hx => by
    rcases List.mem_append.mp hx with hx | hx
    · exact reads_lt r x hx
    · exact reads_lt_all t x hx
end
section
variable {X : Cx} {Γ : Gl0} {base : Nat} {pins : List (Addr × Obj)} {σ : L2.St} {H : Hp} {s : Shared} {bs : List Nat} {G : Hp} {ι : List Addr} {F : Hp} {m : MH}
theorem DenK.keysD : ∀ {kvs : List (D × D)} {es : List (Key × V)}, DenK Γ ι F kvs es → Dens Γ ι F (kvs.map (·.1)) (es.map fun e => kV e.1)
  | [], _, h => by rw [show _ = [] from h]; rfl
  | (a, b) :: r, _, ⟨k, v, es', h1, h2, h3, h4⟩ => by
    rw [h1, h2]
    refine ⟨kV k, es'.map fun e => kV e.1, rfl, ?_, DenK.keysD h4⟩
    cases k <;> rfl
theorem DenT.keysD : ∀ {kvs : List (D × D)} {es : List (NestedKey × Addr × V)}, DenT Γ ι F kvs es → Dens Γ ι F (kvs.map (·.1)) (es.map fun e => V.ref e.2.1)
  | [], _, h => by rw [show _ = [] from h]; rfl
  | (a, b) :: r, _, ⟨k, p, v, es', h1, h2, h3, h4, h5⟩ => by
    rw [h1]
    exact ⟨V.ref p, es'.map fun e => V.ref e.2.1, rfl, h3, DenT.keysD h5⟩
theorem vals_by {P : Nat → Value → Prop} : ∀ {vs : List V} {us : List Value} (k : Nat), us.length = vs.length → (∀ (j : Nat) (u : Value), us[j]? = some u → P (k + j) u) → (∀ (j : Nat) (v : V) (u : Value), vs[j]? = some v → P (k + j) u → RelV v u) → Vals vs us
  | [], [], _, _, _, _ => .nil
  | [], _ :: _, _, h, _, _ => by simp at h
  | _ :: _, [], _, h, _, _ => by simp at h
  | v :: vs, u :: us, k, h, hp, hr => by
    refine .cons (hr 0 v u rfl (hp 0 u rfl)) (vals_by (P := P) (k + 1) (by simpa using h) (fun j u' e => ?_) fun j v' u' e p => ?_)
    · have := hp (j + 1) u' (by simpa using e)
      rwa [show k + 1 + j = k + (j + 1) by omega]
    · exact hr (j + 1) v' u' (by simpa using e) (by rwa [show k + (j + 1) = k + 1 + j by omega])
/-- the keys of a dict, as what is walked or listed -/
theorem dict_src (g : Gx Γ X) (I : Inv X pins σ H s) (R : HR Γ base bs G ι F m H) {a : Addr} {t : Bool} {kvs : List (D × D)} {o : HO} (ha : Rd H a o) (hd : DctDen Γ ι F a t kvs o) :
    ∃ (n : Nat) (P : Nat → Value → Prop) (OK : Heap → Prop), PySem.W.KdlSrc X.prog X.w "dict" a a n P OK ∧ OK s.heap ∧ n ≤ sizeLine ∧ ∃ vs, Dens Γ ι F (kvs.map (·.1)) vs ∧ vs.length = n ∧ ∀ us : List Value, us.length = n → (∀ (j : Nat) (u : Value), us[j]? = some u → P j u) → Vals vs us := by
  rcases hd with ⟨rfl, es, rfl, hd⟩ | ⟨rfl, es, rfl, hd⟩
  · obtain ⟨z, lo, vs, rel, dd⟩ := dk_rd I.hok ha
    obtain ⟨ep, hat⟩ := dd.dictAt
    refine ⟨vs.length, (fun i v => ∃ k x, vs[i]? = some (k, x) ∧ (mixKind X.prog X.w).is k v = true), (fun h => h.DictAt (mixKind X.prog X.w) a vs ep), PySem.W.kdl_dict (knd := mixKind X.prog X.w) (kvs := vs) (ep := ep) lo, hat, by rw [← rel.length]; exact z, _, hd.keysD, by rw [List.length_map]; exact rel.length, fun us hl hp => ?_⟩
    refine vals_by (P := fun i v => ∃ k x, vs[i]? = some (k, x) ∧ (mixKind X.prog X.w).is k v = true) 0 (by rw [hl, List.length_map]; exact rel.length.symm) (fun j u e => by rw [Nat.zero_add]; exact hp j u e) fun j v u e ⟨k, x, e1, e2⟩ => ?_
    rw [Nat.zero_add] at e1
    rw [List.getElem?_map] at e
    obtain ⟨q, e3, e4⟩ := Option.map_eq_some_iff.mp e
    obtain ⟨w', e5, _⟩ := kv_get rel (k := q.1) (v := q.2) e3
    rw [e1] at e5
    cases e5
    subst e4
    exact relV_key e2
  · obtain ⟨z1, z2, vs, pt, dd⟩ := tdict_of I g.K g.w R.f ha hd
    obtain ⟨o, en, ep, h1, h2, h3, h4, h5, h6⟩ := dd
    have hl0 : en.size = es.length := by
      rw [← Array.length_toList, h4, List.length_map]; exact (Paired.length pt).symm
    refine ⟨en.size, (fun i v => ∃ hi : i < en.size, v = en[i].key), (fun h => h.DictRaw a en ep), PySem.KdlSrc.rawDict z2, ⟨o, h1, h2, h3⟩, by rw [hl0]; exact z1, _, hd.keysD, by rw [List.length_map]; exact hl0.symm, fun us hl hp => ?_⟩
    refine vals_by (P := fun i v => ∃ hi : i < en.size, v = en[i].key) 0 (by rw [hl, List.length_map]; exact hl0) (fun j u e => by rw [Nat.zero_add]; exact hp j u e) fun j v u e ⟨hi, e1⟩ => ?_
    rw [Nat.zero_add] at hi
    simp only [Nat.zero_add] at e1
    rw [List.getElem?_map] at e
    obtain ⟨q, e3, e4⟩ := Option.map_eq_some_iff.mp e
    obtain ⟨q', e5, e6, e7, e8⟩ := paired_get pt e3
    have e9 : en.toList[j]? = some (entryOfKey (nestedKind X.prog X.w) q') := by rw [h4, List.getElem?_map, e5]; rfl
    have e10 : en[j] = entryOfKey (nestedKind X.prog X.w) q' := by
      rw [Array.getElem?_toList, Array.getElem?_eq_getElem hi] at e9
      exact Option.some.inj e9
    subst e4
    rw [e1, e10]
    show Value.ref q'.2.1 = Value.ref q.2.1
    rw [e7]
theorem list_dictZ (g : Gx Γ X) (hc : X.calm = true) {fz : Bool} {E : XK} {Q : VK} (I : Inv X pins σ H s) (R : HR Γ base bs G ι F m H) {a : Addr} {t : Bool} {kvs : List (D × D)} {o : HO} (ha : Rd H a o) (hd : DctDen Γ ι F a t kvs o)
    (h : Pst ⟨Γ, base, bs, G⟩ (Den Γ) ι F Q E (mkL fz (kvs.map (·.1)) m)) : wpAny (model X.prog X.w) X.A (call (.type "list") [.ref a]) (EP X pins σ Q) X.xe s := by
  obtain ⟨n, P, OK, K, ok, hn, vs, dn, hl, hv⟩ := dict_src g I R ha hd
  obtain ⟨hz, hq⟩ := Pst.newL R h dn
  refine PySem.W.kdl_call K (I.ok.hd hc) ok hn fun h' tk acc c hk hat hacc => ?_
  have rv := hv acc.toList (by rw [Array.length_toList]; exact hacc.1) fun j u e => hacc.2 j u (by rw [← Array.getElem?_toList]; exact e)
  exact ⟨.ref _, upd H s.heap.objs.size (.lst vs), I.laid (t' := tk) hk (Nat.le_refl _) ⟨hz, acc.toList, c, rv, by simpa using hat⟩, rfl, hq _ I.fresh⟩
theorem sorted_dictZ (g : Gx Γ X) (hc : X.calm = true) {fz : Bool} {E : XK} {Q : VK} (I : Inv X pins σ H s) (R : HR Γ base bs G ι F m H) {a : Addr} {t : Bool} {kvs : List (D × D)} {o : HO} {es : List D} (ha : Rd H a o) (hd : DctDen Γ ι F a t kvs o)
    (e : sortD (kvs.map (·.1)) = some es) (h : Pst ⟨Γ, base, bs, G⟩ (Den Γ) ι F Q E (mkL fz es m)) : wpAny (model X.prog X.w) X.A (call (.builtin "sorted") [.ref a]) (EP X pins σ Q) X.xe s := by
  have hu := g.u
  obtain ⟨n, P, OK, K, ok, hn, vs, dn, hl, hv⟩ := dict_src g I R ha hd
  refine Calls.call_function_entry PyProof.Rows.kind_sorted PyProof.Rows.plain_sorted PyProof.Rows.entry_sorted (PyProof.Rows.args_sorted1 _) ?_
  unfold Builtin.«sorted»
  refine wpAny_bind (m := checkCount "sorted" 1 1 _) (wpAny_pure ?_)
  refine wpAny_bind (PySem.W.kdu_collect (A := X.A.in1) K (I.ok.hd hc) ok hn fun h' tk acc hk hacc => ?_)
  have rv := hv acc.toList (by rw [Array.length_toList]; exact hacc.1) fun j u e => hacc.2 j u (by rw [← Array.getElem?_toList]; exact e)
  have I1 : Inv X pins σ H { s with heap := h', toks := tk } := I.kept hk
  obtain ⟨ps, e1, e2, e3⟩ := sortD_get e
  obtain ⟨k1, k2, k3, k4, k5, k6⟩ := sort_each g.K I1 R.f _ ps vs acc.toList e1 dn rv
  obtain ⟨c1, c2, c3⟩ := sortable_ok e2
  have hal : acc.toList.length ≤ sizeLine := by rw [← rv.length, hl]; exact hn
  refine wpAny_bind (wpAny_newList ?_ hal)
  have hoL : (h'.push (seqObj "list" acc.toList.toArray 0)).get? h'.objs.size = some (seqObj "list" acc.toList.toArray 0) := Heap.get?_push_size _ rfl
  show wpAny _ _ _ _ _ { s with heap := h'.push (seqObj "list" acc.toList.toArray 0), toks := tk }
  refine wpAny_bind (wpAny_holding (PySem.W.list_sort_data (vs := acc.toList) hoL k1 (k2.mono fun u b ⟨as, r⟩ => ⟨as, PyProof.Rows.Reads.keeps (fun b o e => Heap.get?_push_of_some _ e) r, fun hx => Nat.lt_irrefl _ (reads_lt r _ hx)⟩) (by rw [k4]; exact c1) (by rw [k4]; exact c2)
    (by rw [k6, dn.length, rv.length]; exact hal) (fun b hb => ?_) fun out ho eo => wpAny_pure ?_))
  · have := c3 (encB b) (by rw [← k4]; exact List.mem_map_of_mem hb)
    show X.A.units + 1 + 1 + _ < cLine
    omega
  · have eo' : PySem.W.EachIs (fun u (b : B3) => RelV b.1 u) out (isortBy leB (zip3 vs ps (kvs.map (·.1)))) := by
      rw [isortBy_merge leB_total]; exact eo
    have dn' : Dens Γ ι F es ((isortBy leB (zip3 vs ps (kvs.map (·.1)))).map (·.1)) := by
      rw [e3 vs k5]
      exact Dens.of_pairs _ fun b hb => k3 b ((isortBy_perm leB _).mem_iff.mp hb)
    obtain ⟨hz2, hq⟩ := Pst.newL R h dn'
    obtain ⟨e', he'⟩ := PyProof.Rows.sortedHeap_at (vs := acc.toList) (out := out.toArray) hoL
    refine ⟨_, rfl, .ref h'.objs.size, upd H h'.objs.size (.lst ((isortBy leB (zip3 vs ps (kvs.map (·.1)))).map (·.1))), I1.laid (t' := tk) (fun b u e => ?_) (Nat.le_refl _)
      ⟨hz2, out, e', vals_each eo', he'⟩, rfl, hq _ (I1.hok.fresh (Nat.le_refl _))⟩
    have hb : b < h'.objs.size := Heap.lt_size e
    rw [PyProof.Rows.sortedHeap_old (Nat.ne_of_lt hb) (by rw [size_push']; exact Nat.lt_succ_of_lt hb)]
    exact Heap.get?_push_of_some _ e
end
end Zi
set_option maxHeartbeats 4000000
/-! Z5c: calls of built-ins. -/
namespace Zi
open PySem PySem.Spec PyProof.Rows L2
def bltV : Bl → Value
  | .len => .builtin "len"
  | .abs => .builtin "abs"
  | .max2 => .builtin "max"
  | .min2 => .builtin "min"
  | .maxL => .builtin "max"
  | .minL => .builtin "min"
  | .minT => .builtin "min"
  | .sum => .builtin "sum"
  | .all => .builtin "all"
  | .any => .builtin "any"
  | .sorted => .builtin "sorted"
  | .list => .type "list"
  | .tuple => .type "tuple"
  | .int => .type "int"
  | .bool => .type "bool"
  | .str => .type "str"
  | .sset => .none
  | .dict => .type "dict"
theorem intsD_ok {Γ : Gl0} {ι : List Addr} {F : Hp} : ∀ {ds : List D} {ns : List Int} {vs : List V}, intsD ds = some ns → Dens Γ ι F ds vs → vs = ns.map V.int
  | [], _, _, h, x => by cases h; exact x
  | d :: ds, ns, _, h, ⟨v, r, h1, h2, h3⟩ => by
    cases d with
    | int i =>
      obtain ⟨ms, e1, e2⟩ := Option.map_eq_some_iff.mp (show (intsD ds).map (i :: ·) = some ns from h)
      subst e2
      rw [h1, show v = .int i from h2, intsD_ok e1 h3]
      rfl
    | _ => cases h
theorem boolsD_ok {Γ : Gl0} {ι : List Addr} {F : Hp} : ∀ {ds : List D} {ns : List Bool} {vs : List V}, boolsD ds = some ns → Dens Γ ι F ds vs → vs = ns.map V.bl
  | [], _, _, h, x => by cases h; exact x
  | d :: ds, ns, _, h, ⟨v, r, h1, h2, h3⟩ => by
    cases d with
    | bl i =>
      obtain ⟨ms, e1, e2⟩ := Option.map_eq_some_iff.mp (show (boolsD ds).map (i :: ·) = some ns from h)
      subst e2
      rw [h1, show v = .bl i from h2, boolsD_ok e1 h3]
      rfl
    | _ => cases h
/-! ### min of data -/
theorem readsAll_of {X : Cx} {Γ : Gl0} {ι : List Addr} {F : Hp} {pins : List (Addr × Obj)} {σ : L2.St} {H : Hp} {s : Shared} (hK : Γ.K = X.K) (I : Inv X pins σ H s) (f : Sub F H) : ∀ (ds : List D) (ps : List PyData) (vs : List V) (us : List Value), datsOf ds = some ps → Dens Γ ι F ds vs → Vals vs us → ∃ as, ReadsAll s.heap us ps as
  | [], ps, vs, us, h, x, r => by
    cases h
    rw [show vs = [] from x] at r
    cases r
    exact ⟨[], .nil⟩
  | d :: ds, ps, vs, us, h, ⟨v, vr, h1, h2, h3⟩, r => by
    have h' : (match datOf d, datsOf ds with
      | some k, some ks => some (k :: ks)
      | _, _ => none) = some ps := h
    split at h'
    · rename_i p ps' e1 e2
      cases h'
      rw [h1] at r
      cases r with
      | cons r1 r2 =>
        obtain ⟨as, i⟩ := readsAll_of hK I f ds ps' vr _ e2 h3 r2
        obtain ⟨bs, b⟩ := Dp.reads I p v _ (by rw [← hK]; exact Den.dp f d p v e1 h2) r1
        exact ⟨_, .cons b i⟩
    · cases h'
theorem depthAll_le {n : Nat} : ∀ {ps : List PyData}, (∀ p ∈ ps, p.depth ≤ n) → PyData.depthAll ps ≤ n
  | [], _ => Nat.zero_le _
  | p :: ps, h => Nat.max_le.mpr ⟨h p List.mem_cons_self, depthAll_le fun q hq => h q (List.mem_cons_of_mem _ hq)⟩
theorem min_listI {prog : Program} {w : World} {A : Around} {E : Value → Shared → Prop} {s : Shared} {l : Addr} {vs : Array Value} {x : PyData} {xs : List PyData} {as : List Addr} {Q : Value → Shared → Prop} (hh : A.handled = none) (hl : s.heap.IsList l vs) (hr : ReadsAll s.heap vs.toList (x :: xs) as) (ha : PySem.W.AlikeAll (x :: xs)) (hu : A.units + 1 + PyData.depthAll (x :: xs) < cLine)
    (h : ∀ v h' tk, vs[argBest (fun i j => PySem.W.dataLt ((x :: xs).getD i .none) ((x :: xs).getD j .none)) xs.length]? = some v → (∀ b o, s.heap.get? b = some o → h'.get? b = some o) → Q v { s with heap := h', toks := tk }) :
    wpAny (model prog w) A (call (.builtin "min") [.ref l]) Q E s := by
  have hn : vs.size = xs.length + 1 := PySem.W.readsAll_len hr
  refine call_min_walkH (PySem.W.iter_listW (A := A.in1) hh hl fun s₂ e W st hfp hw hk => ?_)
  refine ⟨_, _, _, _, _, _, _, s.heap, _, rfl, W, st, hfp, by omega, hw, hk, PySem.W.cmpIn_lt (A := A.in1) hr ha (by show A.units + 1 + _ < _; exact hu), fun v s' hP m => ?_⟩
  obtain ⟨h', tk, rfl, hk'⟩ := PySem.W.moved_old e rfl m
  have e1 : vs.size - 1 = xs.length := by omega
  rw [e1] at hP
  exact h v h' tk hP hk'
theorem zip_fst {α β : Type} (x : α) (y : β) : ∀ (a : List α) (b : List β) (i : Nat), a.length = b.length → ((a.zip b).getD i (x, y)).1 = a.getD i x
  | [], [], _, _ => rfl
  | a :: as, b :: bs, 0, _ => rfl
  | a :: as, b :: bs, i + 1, h => zip_fst x y as bs i (Nat.succ.inj h)
  | [], _ :: _, _, h => nomatch h
  | _ :: _, [], _, h => nomatch h
theorem zip_snd {α β : Type} (x : α) (y : β) : ∀ (a : List α) (b : List β) (i : Nat), a.length = b.length → ((a.zip b).getD i (x, y)).2 = b.getD i y
  | [], [], _, _ => rfl
  | a :: as, b :: bs, 0, _ => rfl
  | a :: as, b :: bs, i + 1, h => zip_snd x y as bs i (Nat.succ.inj h)
  | [], _ :: _, _, h => nomatch h
  | _ :: _, [], _, h => nomatch h
theorem best_of {d : D} {ds : List D} {p : PyData} {ps : List PyData} (hl : ps.length = ds.length) : (d :: ds)[argBest (fun i j => PySem.W.dataLt ((p :: ps).getD i .none) ((p :: ps).getD j .none)) ps.length]? = some ((ps.zip ds).foldl (fun a y => if PySem.W.dataLt y.1 a.1 = true then y else a) (p, d)).2 := by
  have key := PySem.W.argBest_fold (fun a b : PyData × D => PySem.W.dataLt a.1 b.1) (PyData.none, D.non) (p, d) (ps.zip ds) (ps.zip ds).length (Nat.le_refl _)
  rw [List.take_length] at key
  have hz : (ps.zip ds).length = ps.length := by rw [List.length_zip]; omega
  have hl' : (p :: ps).length = (d :: ds).length := by rw [List.length_cons, List.length_cons, hl]
  have ez : ((p, d) :: ps.zip ds) = (p :: ps).zip (d :: ds) := rfl
  have e2 : (fun i j => (fun a b : PyData × D => PySem.W.dataLt a.1 b.1) (((p, d) :: ps.zip ds).getD i (PyData.none, D.non)) (((p, d) :: ps.zip ds).getD j (PyData.none, D.non))) = fun i j => PySem.W.dataLt ((p :: ps).getD i .none) ((p :: ps).getD j .none) := by
    funext i j
    dsimp only
    rw [ez, zip_fst _ _ _ _ _ hl', zip_fst _ _ _ _ _ hl']
  rw [e2, hz] at key
  obtain ⟨k1, k2⟩ := key
  rw [← k2, ez, zip_snd _ _ _ _ _ hl']
  generalize argBest (fun i j => PySem.W.dataLt ((p :: ps).getD i .none) ((p :: ps).getD j .none)) ps.length = i at k1 ⊢
  have hj : i < (d :: ds).length := by rw [List.length_cons]; omega
  rw [List.getD_eq_getElem?_getD, List.getElem?_eq_getElem hj]
  rfl
theorem min_listZ {X : Cx} {Γ : Gl0} {base : Nat} {ι : List Addr} {F : Hp} {bs : List Nat} {G : Hp} {m : MH} {pins : List (Addr × Obj)} {σ : L2.St} {H : Hp} {s : Shared} {Q : VK} (g : Gx Γ X) (hc : X.calm = true) (I : Inv X pins σ H s) (R : HR Γ base bs G ι F m H) {a : Addr} {vs : List V} {d : D} {ds : List D} {p : PyData} {ps : List PyData} (hs : SqL X.K H a vs) (x : Dens Γ ι F (d :: ds) vs)
    (e : datsOf (d :: ds) = some (p :: ps)) (c : sortable (p :: ps) = true) (q : ∀ v, Den Γ ι F ((ps.zip ds).foldl (fun a y => if PySem.W.dataLt y.1 a.1 = true then y else a) (p, d)).2 v → Q v H) :
    wpAny (model X.prog X.w) X.A (call (.builtin "min") [.ref a]) (EP X pins σ Q) X.xe s := by
  obtain ⟨its, rv, hl, hz⟩ := I.list hs
  obtain ⟨as, ra⟩ := readsAll_of g.K I R.f (d :: ds) (p :: ps) vs its e x rv
  obtain ⟨c1, c2, c3⟩ := sortable_ok c
  have hu := g.u
  have hd := depthAll_le c3
  have hlen : ps.length = ds.length := by
    have h1 : its.toArray.size = (p :: ps).length := PySem.W.readsAll_len ra
    have h2 := x.length
    have h3 := rv.length
    simp only [List.length_cons, List.size_toArray] at h1 h2
    omega
  refine min_listI (I.ok.hd hc) hl.isList ra ⟨c1, fun y hy => ?_⟩ (by omega) fun v h' tk hv hk => ?_
  · rcases c2 with k | k
    · obtain ⟨z, r, rfl⟩ := k y hy
      exact fun q => nomatch q
    · exact (k y hy).1
  · obtain ⟨v', h1, h2⟩ := x.get (best_of hlen)
    obtain ⟨u, h3, h4⟩ := rv.get h1
    have hv' : its[argBest (fun i j => PySem.W.dataLt ((p :: ps).getD i .none) ((p :: ps).getD j .none)) ps.length]? = some v := by simpa using hv
    rw [h3] at hv'
    cases hv'
    exact ⟨v', H, I.kept hk, h4, q v' h2⟩
theorem maxI_ok : ∀ (l : List Int) (a : Int), maxI l a ∈ a :: l ∧ ∀ x ∈ a :: l, x ≤ maxI l a
  | [], a => ⟨List.mem_cons_self, fun x hx => by rcases List.mem_cons.mp hx with rfl | h; exact Int.le_refl _; exact nomatch h⟩
  | b :: r, a => by
    unfold maxI
    obtain ⟨h1, h2⟩ := maxI_ok r (if b > a then b else a)
    have h3 := h2 _ List.mem_cons_self
    refine ⟨?_, fun x hx => ?_⟩
    · rcases List.mem_cons.mp h1 with e | e
      · rw [e]; split <;> simp
      · exact List.mem_cons_of_mem _ (List.mem_cons_of_mem _ e)
    · rcases List.mem_cons.mp hx with rfl | hx
      · refine Int.le_trans ?_ h3; split <;> omega
      · rcases List.mem_cons.mp hx with rfl | hx
        · refine Int.le_trans ?_ h3; split <;> omega
        · exact h2 x (List.mem_cons_of_mem _ hx)
theorem minI_ok : ∀ (l : List Int) (a : Int), minI l a ∈ a :: l ∧ ∀ x ∈ a :: l, minI l a ≤ x
  | [], a => ⟨List.mem_cons_self, fun x hx => by rcases List.mem_cons.mp hx with rfl | h; exact Int.le_refl _; exact nomatch h⟩
  | b :: r, a => by
    unfold minI
    obtain ⟨h1, h2⟩ := minI_ok r (if b < a then b else a)
    have h3 := h2 _ List.mem_cons_self
    refine ⟨?_, fun x hx => ?_⟩
    · rcases List.mem_cons.mp h1 with e | e
      · rw [e]; split <;> simp
      · exact List.mem_cons_of_mem _ (List.mem_cons_of_mem _ e)
    · rcases List.mem_cons.mp hx with rfl | hx
      · refine Int.le_trans h3 ?_; split <;> omega
      · rcases List.mem_cons.mp hx with rfl | hx
        · refine Int.le_trans h3 ?_; split <;> omega
        · exact h2 x (List.mem_cons_of_mem _ hx)
theorem Dens.one_inv {Γ : Gl0} {ι : List Addr} {F : Hp} {d : D} {vs : List V} (h : Dens Γ ι F [d] vs) : ∃ v, vs = [v] ∧ Den Γ ι F d v := by
  obtain ⟨v, r, h1, h2, h3⟩ := h
  rw [show r = [] from h3] at h1
  exact ⟨v, h1, h2⟩
theorem Dens.two_inv {Γ : Gl0} {ι : List Addr} {F : Hp} {d e : D} {vs : List V} (h : Dens Γ ι F [d, e] vs) : ∃ v u, vs = [v, u] ∧ Den Γ ι F d v ∧ Den Γ ι F e u := by
  obtain ⟨v, r, h1, h2, h3⟩ := h
  obtain ⟨u, rfl, h4⟩ := Dens.one_inv h3
  exact ⟨v, u, h1, h2, h4⟩
section
variable {X : Cx} {Γ : Gl0} {base : Nat}
/-- what is wanted behind a new dict: one for ever is pinned as it stands -/
def newKQ (fz : Bool) (Q : VK) (p : Addr) (o : HO) (H : Hp) : Prop := if fz = true then ∀ od, Q (.ref p) (upd H p (.frz od o)) else Q (.ref p) (upd H p o)
theorem Pst.newK {bs : List Nat} {G : Hp} {ι : List Addr} {F : Hp} {m : MH} {H : Hp} {Q : VK} {E : XK} {fz t : Bool} {kvs : List (D × D)} (R : HR Γ base bs G ι F m H) (h : Pst ⟨Γ, base, bs, G⟩ (Den Γ) ι F Q E (mkK fz t kvs m)) {p : Addr} {o : HO} (hp : H p = none) (x : DctDen Γ ι F p t kvs o) :
    newKQ fz Q p o H := by
  unfold mkK at h
  split at h
  · cases fz with
    | true =>
      intro od
      have e : Ext ι F ι (upd F p (.frz od o)) := Ext.alloc hp R.f
      refine h (.ref p) ι _ _ e (R.frozen hp) ⟨p, rfl, ?_⟩
      rcases x with ⟨rfl, es, rfl, d⟩ | ⟨rfl, es, rfl, d⟩
      · exact .inl ⟨rfl, od, es, upd_same, d.mono e⟩
      · exact .inr ⟨rfl, od, es, upd_same, d.mono e⟩
    | false => exact h (.ref p) _ F _ (Ext.push p) (R.alloc hp x) ⟨p, rfl, by rw [← R.len]; simp⟩
  · exact h.elim
theorem DctDen.mut {ι : List Addr} {F : Hp} {a : Addr} {t : Bool} {kvs : List (D × D)} {o : HO} (x : DctDen Γ ι F a t kvs o) : Mut (some o) := by
  rcases x with ⟨rfl, es, rfl, d⟩ | ⟨rfl, es, rfl, d⟩ <;> exact True.intro
theorem newK_ep {pins : List (Addr × Obj)} {σ : L2.St} {H : Hp} {s : Shared} {Q : VK} {fz : Bool} {p : Addr} {o : HO} (I : Inv X pins σ (upd H p o) s) (mu : Mut (some o)) (q : newKQ fz Q p o H) : EP X pins σ Q (.ref p) s := by
  cases fz with
  | false => exact ⟨.ref p, _, I, rfl, q⟩
  | true =>
    obtain ⟨od, I'⟩ := I.lock upd_same mu
    rw [upd_upd] at I'
    exact ⟨.ref p, _, I', rfl, q od⟩
theorem call_bltZ (g : Gx Γ X) (hc : X.calm = true) (b : Bl) (fz : Bool) (hb : b ≠ .sset) : CallR X (bltV b) (rsZ Γ base (bltD b fz)) := by
  intro pins s σ H xs us Q I r ⟨bs, G, ι, F, m, ds, E, R, hx, h⟩
  unfold bltD at h
  split at h
  · -- len
    rename_i x
    obtain ⟨v, rfl, hv⟩ := hx.one_inv
    obtain ⟨u, rfl, rx⟩ := vals1 r
    split at h
    · rename_i z
      split at h
      · rename_i c
        cases hv
        exact call_len_str pins s σ H _ _ Q I (.cons rx .nil) ⟨z, rfl, by rw [sizeLine_eq]; exact c, Pst.done R h rfl⟩
      · exact (Pst.bad h).elim
    · split at h
      · rename_i es e
        obtain ⟨a, vs, rfl, k1, d1⟩ := R.getS e hv
        rw [g.K] at k1
        exact call_len_seq pins s σ H _ _ Q I (.cons rx .nil) ⟨a, vs, rfl, k1, by rw [← d1.length]; exact Pst.done R h rfl⟩
      · split at h
        · rename_i t kvs e
          obtain ⟨a, o, rfl, ha, hd⟩ := R.getK e hv
          cases rx
          exact dict_lenZ g I R ha hd (Pst.done R h rfl)
        · exact (Pst.bad h).elim
  · -- abs
    obtain ⟨v, rfl, hv⟩ := hx.one_inv
    cases hv
    exact call_abs pins s σ H _ _ Q I r ⟨_, rfl, Pst.done R h rfl⟩
  · obtain ⟨v, u, rfl, hv, hu⟩ := hx.two_inv
    cases hv; cases hu
    exact call_max2 hc pins s σ H _ _ Q I r ⟨_, _, rfl, Pst.done R h rfl⟩
  · obtain ⟨v, u, rfl, hv, hu⟩ := hx.two_inv
    cases hv; cases hu
    exact call_min2 hc pins s σ H _ _ Q I r ⟨_, _, rfl, Pst.done R h rfl⟩
  · -- maxL
    obtain ⟨v, rfl, hv⟩ := hx.one_inv
    split at h
    · rename_i a l e
      obtain ⟨es, e1, e2⟩ := Option.bind_eq_some_iff.mp e
      obtain ⟨p, vs, rfl, k1, d1⟩ := R.getL e1 hv
      rw [intsD_ok e2 d1, g.K] at k1
      refine cr_max hc pins s σ H _ _ Q I r ⟨p, a :: l, rfl, k1, by simp, fun mx h1 h2 => ?_⟩
      have e3 : mx = maxI l a := Int.le_antisymm ((maxI_ok l a).2 mx h1) (h2 _ (maxI_ok l a).1)
      rw [e3]
      exact Pst.done R h rfl
    · exact (Pst.bad h).elim
  · obtain ⟨v, rfl, hv⟩ := hx.one_inv
    split at h
    · rename_i a l e
      obtain ⟨es, e1, e2⟩ := Option.bind_eq_some_iff.mp e
      obtain ⟨p, vs, rfl, k1, d1⟩ := R.getL e1 hv
      rw [intsD_ok e2 d1, g.K] at k1
      refine cr_min hc pins s σ H _ _ Q I r ⟨p, a :: l, rfl, k1, by simp, fun mx h1 h2 => ?_⟩
      have e3 : mx = minI l a := Int.le_antisymm (h2 _ (minI_ok l a).1) ((minI_ok l a).2 mx h1)
      rw [e3]
      exact Pst.done R h rfl
    · exact (Pst.bad h).elim
  · -- minT
    obtain ⟨v, rfl, hv⟩ := hx.one_inv
    obtain ⟨u, rfl, rx⟩ := vals1 r
    split at h
    · rename_i d ds e
      split at h
      · rename_i p ps e2
        split at h
        · rename_i c
          obtain ⟨a, vs, rfl, k1, d1⟩ := R.getL e hv
          cases rx
          rw [g.K] at k1
          exact min_listZ g hc I R k1 d1 e2 c fun v dv => Pst.done R h dv
        · exact (Pst.bad h).elim
      · exact (Pst.bad h).elim
    · exact (Pst.bad h).elim
  · obtain ⟨v, rfl, hv⟩ := hx.one_inv
    split at h
    · rename_i ns e
      obtain ⟨es, e1, e2⟩ := Option.bind_eq_some_iff.mp e
      obtain ⟨p, vs, rfl, k1, d1⟩ := R.getL e1 hv
      rw [intsD_ok e2 d1, g.K] at k1
      exact cr_sum hc pins s σ H _ _ Q I r ⟨p, ns, rfl, k1, Pst.done R h rfl⟩
    · exact (Pst.bad h).elim
  · obtain ⟨v, rfl, hv⟩ := hx.one_inv
    split at h
    · rename_i ns e
      obtain ⟨es, e1, e2⟩ := Option.bind_eq_some_iff.mp e
      obtain ⟨p, vs, rfl, k1, d1⟩ := R.getL e1 hv
      rw [boolsD_ok e2 d1, g.K] at k1
      exact cr_all hc pins s σ H _ _ Q I r ⟨p, ns, rfl, k1, Pst.done R h rfl⟩
    · exact (Pst.bad h).elim
  · obtain ⟨v, rfl, hv⟩ := hx.one_inv
    split at h
    · rename_i ns e
      obtain ⟨es, e1, e2⟩ := Option.bind_eq_some_iff.mp e
      obtain ⟨p, vs, rfl, k1, d1⟩ := R.getL e1 hv
      rw [boolsD_ok e2 d1, g.K] at k1
      exact cr_any hc pins s σ H _ _ Q I r ⟨p, ns, rfl, k1, Pst.done R h rfl⟩
    · exact (Pst.bad h).elim
  · -- sorted
    obtain ⟨v, rfl, hv⟩ := hx.one_inv
    obtain ⟨u, rfl, rx⟩ := vals1 r
    split at h
    · rename_i es e
      obtain ⟨es', e1, h⟩ := Pst.ofO h
      obtain ⟨a, vs, rfl, k1, d1⟩ := R.getL e hv
      cases rx
      rw [g.K] at k1
      exact sorted_listZ g I R k1 d1 e1 h
    · split at h
      · rename_i t kvs e
        obtain ⟨es', e1, h⟩ := Pst.ofO h
        obtain ⟨a, o, rfl, ha, hd⟩ := R.getK e hv
        cases rx
        exact sorted_dictZ g hc I R ha hd e1 h
      · exact (Pst.bad h).elim
  · exact (hb rfl).elim
  · -- list
    obtain ⟨v, rfl, hv⟩ := hx.one_inv
    obtain ⟨u, rfl, rx⟩ := vals1 r
    split at h
    · rename_i es e
      obtain ⟨a, vs, rfl, k1, d1⟩ := R.getS e hv
      obtain ⟨hz, hq⟩ := Pst.newL R h d1
      rw [g.K] at k1
      exact call_list_of pins s σ H _ _ Q I (.cons rx .nil) ⟨a, vs, rfl, k1, hq⟩
    · split at h
      · rename_i t kvs e
        obtain ⟨a, o, rfl, ha, hd⟩ := R.getK e hv
        cases rx
        exact list_dictZ g hc I R ha hd h
      · exact (Pst.bad h).elim
  · -- tuple
    obtain ⟨v, rfl, hv⟩ := hx.one_inv
    split at h
    · rename_i es
      obtain ⟨a, vs, rfl, k1, d1⟩ := id hv
      exact call_tuple_of pins s σ H _ _ Q I r ⟨a, vs, rfl, .inr ⟨by rw [← g.K]; exact R.f.seqT k1, Pst.done R h hv⟩⟩
    · split at h
      · rename_i es e
        obtain ⟨a, vs, rfl, k1, d1⟩ := R.getL e hv
        rw [g.K] at k1
        obtain ⟨hz, hq⟩ := Pst.newT R h d1
        exact call_tuple_of pins s σ H _ _ Q I r ⟨a, vs, rfl, .inl ⟨k1, hq⟩⟩
      · exact (Pst.bad h).elim
  · -- dict
    obtain ⟨v, rfl, hv⟩ := hx.one_inv
    obtain ⟨u, rfl, rx⟩ := vals1 r
    split at h
    · rename_i kvs e
      obtain ⟨a, o, rfl, ha, hd⟩ := R.getK e hv
      cases rx
      rcases hd with ⟨_, es, rfl, hd⟩ | ⟨z, _⟩
      · exact d_copyOf I ha fun p s' hp I' => newK_ep I' True.intro (Pst.newK R h hp (.inl ⟨rfl, es, rfl, hd⟩))
      · cases z
    · exact (Pst.bad h).elim
  · obtain ⟨v, rfl, hv⟩ := hx.one_inv
    cases hv
    exact call_int1 pins s σ H _ _ Q I r (.inl ⟨_, rfl, Pst.done R h rfl⟩)
  · obtain ⟨v, rfl, hv⟩ := hx.one_inv
    cases hv
    exact call_int1 pins s σ H _ _ Q I r (.inr ⟨_, rfl, Pst.done R h rfl⟩)
  · obtain ⟨v, rfl, hv⟩ := hx.one_inv
    cases hv
    exact call_bool1 pins s σ H _ _ Q I r (.inl ⟨_, rfl, Pst.done R h rfl⟩)
  · obtain ⟨v, rfl, hv⟩ := hx.one_inv
    cases hv
    exact call_bool1 pins s σ H _ _ Q I r (.inr ⟨_, rfl, Pst.done R h rfl⟩)
  · obtain ⟨v, rfl, hv⟩ := hx.one_inv
    cases hv
    split at h
    · rename_i c
      exact call_str_int pins s σ H _ _ Q I r ⟨_, rfl, c, Pst.done R h rfl⟩
    · exact (Pst.bad h).elim
  · exact (Pst.bad h).elim
end
end Zi
set_option maxHeartbeats 4000000
/-! Z5d: methods of lists and dicts, stores. -/
namespace Zi
open PySem PySem.Spec PyProof.Rows L2
/-! ### what is below -/
mutual
theorem pure_below (n : Nat) : ∀ d : D, pure d = true → below n d = true
  | .non, _ => rfl
  | .bl _, _ => rfl
  | .int _, _ => rfl
  | .str _, _ => rfl
  | .tup ds, h => pures_below n ds h
  | .lst ds, h => pures_below n ds h
  | .kls ds, h => pures_below n ds h
  | .dct _ kvs, h => pureKV_below n kvs h
  | .ins _ fs, h => pureF_below n fs h
  | .ref _, h => by cases h
theorem pures_below (n : Nat) : ∀ d : List D, pures d = true → belows n d = true
  | [], _ => rfl
  | d :: ds, h => by
    have h' : (pure d && pures ds) = true := h
    rw [Bool.and_eq_true] at h'
    show (below n d && belows n ds) = true
    rw [pure_below n d h'.1, pures_below n ds h'.2]; rfl
theorem pureKV_below (n : Nat) : ∀ d : List (D × D), pureKV d = true → belowKV n d = true
  | [], _ => rfl
  | (a, b) :: ds, h => by
    have h' : (pure a && (pure b && pureKV ds)) = true := h
    rw [Bool.and_eq_true, Bool.and_eq_true] at h'
    show (below n a && (below n b && belowKV n ds)) = true
    rw [pure_below n a h'.1, pure_below n b h'.2.1, pureKV_below n ds h'.2.2]; rfl
theorem pureF_below (n : Nat) : ∀ d : Fs, pureF d = true → belowF n d = true
  | [], _ => rfl
  | (a, b) :: ds, h => by
    have h' : (pure b && pureF ds) = true := h
    rw [Bool.and_eq_true] at h'
    show (below n b && belowF n ds) = true
    rw [pure_below n b h'.1, pureF_below n ds h'.2]; rfl
end
theorem belows_all (n : Nat) : ∀ ds : List D, belows n ds = ds.all (below n)
  | [] => rfl
  | d :: ds => by show (below n d && belows n ds) = _; rw [belows_all n ds]; rfl
theorem belowKV_all (n : Nat) : ∀ ds : List (D × D), belowKV n ds = ds.all fun p => below n p.1 && below n p.2
  | [] => rfl
  | (a, b) :: ds => by show (below n a && (below n b && belowKV n ds)) = _; rw [belowKV_all n ds, List.all_cons, Bool.and_assoc]
theorem belowF_all (n : Nat) : ∀ ds : Fs, belowF n ds = ds.all fun p => below n p.2
  | [] => rfl
  | (a, b) :: ds => by show (below n b && belowF n ds) = _; rw [belowF_all n ds]; rfl
theorem belows_append {n : Nat} {a b : List D} (h1 : belows n a = true) (h2 : belows n b = true) : belows n (a ++ b) = true := by
  rw [belows_all] at *
  rw [List.all_append, h1, h2]; rfl
theorem all_sub {α : Type} {p : α → Bool} {a b : List α} (h : b.all p = true) (s : ∀ x ∈ a, x ∈ b) : a.all p = true := List.all_eq_true.mpr fun x hx => List.all_eq_true.mp h x (s x hx)
theorem belows_sub {n : Nat} {a b : List D} (h : belows n b = true) (s : ∀ x ∈ a, x ∈ b) : belows n a = true := by
  rw [belows_all] at *
  exact all_sub h s
theorem belows_set {n : Nat} {a : List D} {d : D} (j : Nat) (h : belows n a = true) (hd : below n d = true) : belows n (a.set j d) = true := by
  rw [belows_all] at *
  refine List.all_eq_true.mpr fun x hx => ?_
  rcases List.mem_or_eq_of_mem_set hx with hx | rfl
  · exact List.all_eq_true.mp h x hx
  · exact hd
theorem belowKV_put {n : Nat} {kvs : List (D × D)} {a v : D} {k : K2} (h : belowKV n kvs = true) (ha : below n a = true) (hv : below n v = true) : belowKV n (dput kvs a k v) = true := by
  rw [belowKV_all] at *
  unfold dput
  split
  · refine List.all_eq_true.mpr fun x hx => ?_
    obtain ⟨p, hp, e⟩ := List.mem_map.mp hx
    have hp' := List.all_eq_true.mp h p hp
    rw [Bool.and_eq_true] at hp'
    subst e
    split
    · rw [Bool.and_eq_true]; exact ⟨hp'.1, hv⟩
    · rw [Bool.and_eq_true]; exact hp'
  · rw [List.all_append, h, List.all_cons, List.all_nil, ha, hv]; rfl
theorem belowKV_del {n : Nat} {kvs : List (D × D)} {k : K2} (h : belowKV n kvs = true) : belowKV n (ddel kvs k) = true := by
  rw [belowKV_all] at *
  exact all_sub h fun x hx => (List.mem_filter.mp hx).1
theorem belowF_put {n : Nat} {v : D} {f : String} (hv : below n v = true) : ∀ {fs : Fs}, belowF n fs = true → belowF n (fput fs f v) = true
  | [], _ => by show (below n v && true) = true; rw [hv]; rfl
  | (g, u) :: r, h => by
    have h' : (below n u && belowF n r) = true := h
    rw [Bool.and_eq_true] at h'
    unfold fput
    split
    · show (below n v && belowF n r) = true; rw [hv, h'.2]; rfl
    · show (below n u && belowF n (fput r f v)) = true; rw [h'.1, belowF_put hv h'.2]; rfl

abbrev relU : List Addr → Hp → Unit → Unit → Prop := fun _ _ _ _ => True
section
variable {X : Cx} {Γ : Gl0} {base : Nat} {bs : List Nat} {G : Hp} {ι : List Addr} {F : Hp} {m : MH} {H : Hp} {E : XK}
theorem Pst.put {γ δ : Type} {rel : List Addr → Hp → γ → δ → Prop} {Q : δ → Hp → Prop} {i : Nat} {a : Addr} {o u : Ob} {ho : HO} {ok : Bool} {f : Unit → MH → R γ} (R : HR Γ base bs G ι F m H) (ha : ι[i]? = some a) (hm : m[i]? = some (some u)) (d : ObDen Γ ι F a o ho)
    (hok : ok = true → ∀ n, obBelow n u = true → obBelow n o = true) (h : Pst ⟨Γ, base, bs, G⟩ rel ι F Q E ((Zi.put base i ok o m).bind f)) :
    HR Γ base bs G ι F (m.set i (some o)) (upd H a ho) ∧ Pst ⟨Γ, base, bs, G⟩ rel ι F Q E (f () (m.set i (some o))) := by
  unfold Zi.put at h
  split at h
  · rename_i c
    exact ⟨R.change ha hm d (c.imp id hok), h⟩
  · exact (Pst.bad h).elim
theorem Pst.put0 {Q : Unit → Hp → Prop} {i : Nat} {a : Addr} {o u : Ob} {ho : HO} {ok : Bool} (R : HR Γ base bs G ι F m H) (ha : ι[i]? = some a) (hm : m[i]? = some (some u)) (d : ObDen Γ ι F a o ho)
    (hok : ok = true → ∀ n, obBelow n u = true → obBelow n o = true) (h : Pst ⟨Γ, base, bs, G⟩ relU ι F Q E (Zi.put base i ok o m)) : Q () (upd H a ho) := by
  unfold Zi.put at h
  split at h
  · rename_i c
    exact h () ι F _ (Ext.refl _ _) (R.change ha hm d (c.imp id hok)) trivial
  · exact (Pst.bad h).elim
theorem HR.lst (R : HR Γ base bs G ι F m H) {i : Nat} {ds : List D} {v : V} (hm : m[i]? = some (some (.lst ds))) (d : Den Γ ι F (.ref i) v) : ∃ a vs, v = .ref a ∧ ι[i]? = some a ∧ H a = some (.lst vs) ∧ Dens Γ ι F ds vs := by
  obtain ⟨a, ho, h1, h2, h3, h4, h5, vs, rfl, h6⟩ := R.ref hm d
  exact ⟨a, vs, h1, h2, h5, h6⟩
theorem HR.dct (R : HR Γ base bs G ι F m H) {i : Nat} {t : Bool} {kvs : List (D × D)} {v : V} (hm : m[i]? = some (some (.dct t kvs))) (d : Den Γ ι F (.ref i) v) : ∃ a ho, v = .ref a ∧ ι[i]? = some a ∧ H a = some ho ∧ DctDen Γ ι F a t kvs ho := by
  obtain ⟨a, ho, h1, h2, h3, h4, h5, h6⟩ := R.ref hm d
  exact ⟨a, ho, h1, h2, h5, h6⟩
theorem Dens.dropLast {ds : List D} {vs : List V} (h : Dens Γ ι F ds vs) : Dens Γ ι F ds.dropLast vs.dropLast := by
  rw [List.dropLast_eq_take, List.dropLast_eq_take, h.length]
  exact h.take _
theorem Dens.eraseIdx : ∀ {ds : List D} {vs : List V} (n : Nat), Dens Γ ι F ds vs → Dens Γ ι F (ds.eraseIdx n) (vs.eraseIdx n)
  | [], _, _, h => by rw [show _ = [] from h]; rfl
  | d :: ds, _, 0, ⟨v, r, h1, h2, h3⟩ => by rw [h1]; exact h3
  | d :: ds, _, n + 1, ⟨v, r, h1, h2, h3⟩ => by rw [h1]; exact ⟨v, r.eraseIdx n, rfl, h2, Dens.eraseIdx n h3⟩
theorem size_of_lt {n : Nat} (h : n < SZ) : n < sizeLine := by rw [sizeLine_eq]; exact h

/-! ### a dict is changed -/
theorem tdict_write {pins : List (Addr × Obj)} {σ : L2.St} {s : Shared} (g : Gx Γ X) (I : Inv X pins σ H s) {a : Addr} {es es' : List (NestedKey × Addr × V)} {vs' : List (NestedKey × Addr × Value)} {h' : Heap} {t' : Nat} (e : H a = some (tHO Γ.w a es)) (y : (a == sysModules) = false)
    (hd : h'.DictOfH (nestedKind X.prog X.w) a vs') (hs : Heap.SameBut a s.heap h') (pt : PTv es' vs') (hl : es'.length ≤ sizeLine) : Inv X pins σ (upd H a (tHO Γ.w a es')) { s with heap := h', toks := t' } := by
  have he : ∃ q, h'.get? a = some q := let ⟨q, _, _, hq, _⟩ := hd; ⟨q, hq⟩
  refine d_write I (by rw [e]; exact True.intro) hs he ?_
  rw [g.w]
  exact tHO_ok (tP_new hl y pt hd)
theorem dct_set {pins : List (Addr × Obj)} {σ : L2.St} {s : Shared} (g : Gx Γ X) (I : Inv X pins σ H s) (R : HR Γ base bs G ι F m H) {a : Addr} {t : Bool} {kvs : List (D × D)} {o : HO} {di dv : D} {x y : V} {u r : Value} {k : K2} {Q : Unit → Shared → Prop} (ha : H a = some o) (hd : DctDen Γ ι F a t kvs o)
    (hx : Den Γ ι F di x) (hy : Den Γ ι F dv y) (rx : RelV x u) (ry : RelV y r) (hk : keyFor t di = some k) (hl : kvs.length < SZ)
    (q : ∀ o' s', DctDen Γ ι F a t (dput kvs di k dv) o' → Inv X pins σ (upd H a o') s' → Q () s') : wpAny (model X.prog X.w) X.A (setItem (.ref a) u r) Q X.xe s := by
  have hu := g.u
  rcases hd with ⟨rfl, es, rfl, hd⟩ | ⟨rfl, es, rfl, hd⟩
  · obtain ⟨qk, rfl, rfl⟩ := keyFor_f hk
    have ex := Den.key hx
    subst ex
    refine d_setItem (by omega) I (DPut.k ha (by rw [← hd.length]; exact size_of_lt hl)) rx ry fun s' I' => q _ s' (.inl ⟨rfl, _, rfl, hd.put hy⟩) I'
  · obtain ⟨ds, qk, rfl, rfl, n0, n1, n2, n3⟩ := keyFor_t hk
    obtain ⟨z1, z2, vs, pt, dd⟩ := tdict_of I g.K g.w R.f (.inl ha) hd
    obtain ⟨b, rfl, rfl, key⟩ := Den.keyed I g.K R.f n1 n2 n3 hx rx
    refine wpAny_setItem_heap (hsz := by rw [← Paired.length pt]; exact z1) (in1_units8 hu) key dd fun h' dd' hs => ?_
    obtain ⟨es', i1, i2⟩ := hd.put pt n0 n2 hx hy ry
    refine q (tHO Γ.w a es') _ (.inr ⟨rfl, es', rfl, i1⟩) (tdict_write g I ha z2 dd' hs i2 ?_)
    rw [← i1.length]
    have : (dput kvs (.tup ds) (.tup qk) dv).length ≤ kvs.length + 1 := by
      unfold dput
      split
      · rw [List.length_map]; omega
      · rw [List.length_append]; exact Nat.le_refl _
    have := size_of_lt hl
    omega

/-! ### methods of lists and dicts -/
def bmN : Bm → Str
  | .append => "append" | .pop => "pop" | .popAt => "pop" | .extend => "extend" | .index => "index" | .count => "count" | .reverse => "reverse"
  | .get1 => "get" | .get2 => "get" | .dpop1 => "pop" | .dpop2 => "pop" | .setdef => "setdefault" | .join => "join"
def bmI : Bm → String
  | .append => "list.append" | .pop => "list.pop" | .popAt => "list.pop" | .extend => "list.extend" | .index => "list.index" | .count => "list.count" | .reverse => "list.reverse"
  | .get1 => "dict.get" | .get2 => "dict.get" | .dpop1 => "dict.pop" | .dpop2 => "dict.pop" | .setdef => "dict.setdefault" | .join => "str.join"
def r2Bm (Γ : Gl0) (base : Nat) (b : Bm) (fz : Bool) : V → List V → Hp → VK → Prop := fun x xs H Q => ∃ bs G ι F m dx ds E, HR Γ base bs G ι F m H ∧ Den Γ ι F dx x ∧ Dens Γ ι F ds xs ∧ Pst ⟨Γ, base, bs, G⟩ (Den Γ) ι F Q E (bmtD base b fz dx ds m)
theorem dct_get {pins : List (Addr × Obj)} {σ : L2.St} {s : Shared} (g : Gx Γ X) (I : Inv X pins σ H s) (R : HR Γ base bs G ι F m H) {a : Addr} {t : Bool} {kvs : List (D × D)} {o : HO} {di : D} {x : V} {u : Value} {k : K2} {Q : Value → Shared → Prop} (ha : Rd H a o) (hd : DctDen Γ ι F a t kvs o)
    (hx : Den Γ ι F di x) (rx : RelV x u) (hk : keyFor t di = some k) (q : ∀ v w' s', Den Γ ι F ((dget kvs k).getD .non) v → RelV v w' → Inv X pins σ H s' → Q w' s') : wpAny (model X.prog X.w) X.A (call (.builtin "dict.get") [.ref a, u]) Q X.xe s := by
  have hu := g.u
  rcases hd with ⟨rfl, es, rfl, hd⟩ | ⟨rfl, es, rfl, hd⟩
  · obtain ⟨qk, rfl, rfl⟩ := keyFor_f hk
    have ex := Den.key hx
    subst ex
    refine d_get1 (by omega) I (.inl ⟨_, _, ha, rfl, rfl⟩) rx fun w' s' I' r' => ?_
    obtain ⟨h1, h2⟩ := hd.get qk
    cases e : dget kvs (kK qk) with
    | none =>
      rw [e] at q; rw [h2 e] at r'
      exact q .non w' s' rfl r' I'
    | some b =>
      obtain ⟨v, e1, e2⟩ := h1 b e
      rw [e] at q; rw [e1] at r'
      exact q v w' s' e2 r' I'
  · obtain ⟨ds, qk, rfl, rfl, n0, n1, n2, n3⟩ := keyFor_t hk
    obtain ⟨z1, z2, vs, pt, dd⟩ := tdict_of I g.K g.w R.f ha hd
    obtain ⟨b, rfl, rfl, key⟩ := Den.keyed I g.K R.f n1 n2 n3 hx rx
    refine get_keyed (kvs := pairsH vs) (in1_units8 hu) key z2 ⟨vs, dd, rfl⟩ ?_
    rw [valueAt_pairsH]
    obtain ⟨h1, h2⟩ := hd.get pt qk n2
    cases e : dget kvs (.tup qk) with
    | none =>
      rw [e] at q; rw [h2 e]
      exact q .non _ _ rfl rfl (I.tok _)
    | some c =>
      obtain ⟨v, p', u', e1, e2, e3⟩ := h1 c e
      rw [e] at q; rw [e1]
      exact q v _ _ e3 e2 (I.tok _)
theorem dct_get2 {pins : List (Addr × Obj)} {σ : L2.St} {s : Shared} (g : Gx Γ X) (I : Inv X pins σ H s) (R : HR Γ base bs G ι F m H) {a : Addr} {t : Bool} {kvs : List (D × D)} {o : HO} {di dv : D} {x y : V} {u r : Value} {k : K2} {Q : Value → Shared → Prop} (ha : Rd H a o) (hd : DctDen Γ ι F a t kvs o)
    (hx : Den Γ ι F di x) (rx : RelV x u) (hy : Den Γ ι F dv y) (ry : RelV y r) (hk : keyFor t di = some k) (q : ∀ v w' s', Den Γ ι F ((dget kvs k).getD dv) v → RelV v w' → Inv X pins σ H s' → Q w' s') : wpAny (model X.prog X.w) X.A (call (.builtin "dict.get") [.ref a, u, r]) Q X.xe s := by
  have hu := g.u
  rcases hd with ⟨rfl, es, rfl, hd⟩ | ⟨rfl, es, rfl, hd⟩
  · obtain ⟨qk, rfl, rfl⟩ := keyFor_f hk
    have ex := Den.key hx
    subst ex
    refine d_get2 (by omega) I (.inl ⟨_, _, ha, rfl, rfl⟩) rx ry fun w' s' I' r' => ?_
    obtain ⟨h1, h2⟩ := hd.get qk
    cases e : dget kvs (kK qk) with
    | none =>
      rw [e] at q; rw [h2 e] at r'
      exact q y w' s' hy r' I'
    | some b =>
      obtain ⟨v, e1, e2⟩ := h1 b e
      rw [e] at q; rw [e1] at r'
      exact q v w' s' e2 r' I'
  · obtain ⟨ds, qk, rfl, rfl, n0, n1, n2, n3⟩ := keyFor_t hk
    obtain ⟨z1, z2, vs, pt, dd⟩ := tdict_of I g.K g.w R.f ha hd
    obtain ⟨b, rfl, rfl, key⟩ := Den.keyed I g.K R.f n1 n2 n3 hx rx
    refine getOr_keyed (kvs := pairsH vs) (in1_units8 hu) key z2 ⟨vs, dd, rfl⟩ ?_
    rw [valueAt_pairsH]
    obtain ⟨h1, h2⟩ := hd.get pt qk n2
    cases e : dget kvs (.tup qk) with
    | none =>
      rw [e] at q; rw [h2 e]
      exact q y _ _ hy ry (I.tok _)
    | some c =>
      obtain ⟨v, p', u', e1, e2, e3⟩ := h1 c e
      rw [e] at q; rw [e1]
      exact q v _ _ e3 e2 (I.tok _)
theorem dct_pop {pins : List (Addr × Obj)} {σ : L2.St} {s : Shared} (g : Gx Γ X) (I : Inv X pins σ H s) (R : HR Γ base bs G ι F m H) {a : Addr} {t : Bool} {kvs : List (D × D)} {o : HO} {di dv : D} {x : V} {u : Value} {k : K2} {Q : Value → Shared → Prop} (ha : H a = some o) (hd : DctDen Γ ι F a t kvs o)
    (hx : Den Γ ι F di x) (rx : RelV x u) (hk : keyFor t di = some k) (hv : dget kvs k = some dv) (q : ∀ v w' o' s', Den Γ ι F dv v → RelV v w' → DctDen Γ ι F a t (ddel kvs k) o' → Inv X pins σ (upd H a o') s' → Q w' s') :
    wpAny (model X.prog X.w) X.A (call (.builtin "dict.pop") [.ref a, u]) Q X.xe s := by
  have hu := g.u
  rcases hd with ⟨rfl, es, rfl, hd⟩ | ⟨rfl, es, rfl, hd⟩
  · obtain ⟨qk, rfl, rfl⟩ := keyFor_f hk
    have ex := Den.key hx
    subst ex
    obtain ⟨v, e1, e2⟩ := (hd.get qk).1 dv hv
    exact d_pop I ha rx e1 (.inl rfl) fun w' s' I' r' => q v w' _ s' e2 r' (.inl ⟨rfl, _, rfl, hd.drop qk⟩) I'
  · obtain ⟨ds, qk, rfl, rfl, n0, n1, n2, n3⟩ := keyFor_t hk
    obtain ⟨z1, z2, vs, pt, dd⟩ := tdict_of I g.K g.w R.f (.inl ha) hd
    obtain ⟨b, rfl, rfl, key⟩ := Den.keyed I g.K R.f n1 n2 n3 hx rx
    obtain ⟨v, p', u', e1, e2, e3⟩ := (hd.get pt qk n2).1 dv hv
    refine call_pop_heap (hsz := by rw [← Paired.length pt]; exact z1) (.inl rfl) (PySem.F.args_dict_pop_2 _ _) (in1_units8 hu) key z2 dd e1 fun h' dd' hs => ?_
    obtain ⟨es', i1, i2⟩ := hd.drop n2 pt
    refine q v u' (tHO Γ.w a es') _ e3 e2 (.inr ⟨rfl, es', rfl, i1⟩) (tdict_write g I ha z2 dd' hs i2 ?_)
    rw [← i1.length]
    have : (ddel kvs (.tup qk)).length ≤ kvs.length := List.length_filter_le _ _
    have := hd.length
    omega
theorem dct_setd {pins : List (Addr × Obj)} {σ : L2.St} {s : Shared} (g : Gx Γ X) (I : Inv X pins σ H s) (R : HR Γ base bs G ι F m H) {a : Addr} {t : Bool} {kvs : List (D × D)} {o : HO} {di dv : D} {x y : V} {u r : Value} {k : K2} {Q : Value → Shared → Prop} (ha : H a = some o) (hd : DctDen Γ ι F a t kvs o)
    (hx : Den Γ ι F di x) (rx : RelV x u) (hy : Den Γ ι F dv y) (ry : RelV y r) (hk : keyFor t di = some k) (hl : kvs.length < SZ) (q1 : ∀ d v w' s', dget kvs k = some d → Den Γ ι F d v → RelV v w' → Inv X pins σ H s' → Q w' s')
    (q2 : ∀ o' s' w', dget kvs k = none → DctDen Γ ι F a t (dput kvs di k dv) o' → Inv X pins σ (upd H a o') s' → RelV y w' → Q w' s') : wpAny (model X.prog X.w) X.A (call (.builtin "dict.setdefault") [.ref a, u, r]) Q X.xe s := by
  have hu := g.u
  rcases hd with ⟨rfl, es, rfl, hd⟩ | ⟨rfl, es, rfl, hd⟩
  · obtain ⟨qk, rfl, rfl⟩ := keyFor_f hk
    have ex := Den.key hx
    subst ex
    obtain ⟨h1, h2⟩ := hd.get qk
    refine d_setd I ha rx ry (by rw [← hd.length]; exact size_of_lt hl) (fun v e w' s' I' r' => ?_) fun e w' s' I' r' => ?_
    · cases e0 : dget kvs (kK qk) with
      | none => rw [h2 e0] at e; cases e
      | some c =>
        obtain ⟨v', e1, e2⟩ := h1 c e0
        rw [e1] at e; cases e
        exact q1 c v w' s' e0 e2 r' I'
    · cases e0 : dget kvs (kK qk) with
      | some c => obtain ⟨v', e1, e2⟩ := h1 c e0; rw [e1] at e; cases e
      | none => exact q2 _ s' w' e0 (.inl ⟨rfl, _, rfl, hd.put hy⟩) I' r'
  · obtain ⟨ds, qk, rfl, rfl, n0, n1, n2, n3⟩ := keyFor_t hk
    obtain ⟨z1, z2, vs, pt, dd⟩ := tdict_of I g.K g.w R.f (.inl ha) hd
    obtain ⟨b, rfl, rfl, key⟩ := Den.keyed I g.K R.f n1 n2 n3 hx rx
    obtain ⟨h1, h2⟩ := hd.get pt qk n2
    refine call_setdefault_heap (hsz := by rw [← Paired.length pt]; exact z1) (in1_units8 hu) key z2 dd (fun p e => ?_) fun e h' dd' hs => ?_
    · cases e0 : dget kvs (.tup qk) with
      | none => rw [h2 e0] at e; cases e
      | some c =>
        obtain ⟨v', p', u', e1, e2, e3⟩ := h1 c e0
        rw [e1] at e; cases e
        exact q1 c v' _ _ e0 e3 e2 (I.tok _)
    · cases e0 : dget kvs (.tup qk) with
      | some c => obtain ⟨v', p', u', e1, e2, e3⟩ := h1 c e0; rw [e1] at e; cases e
      | none =>
        obtain ⟨es', i1, i2⟩ := hd.put pt n0 n2 hx hy ry
        refine q2 (tHO Γ.w a es') _ r e0 (.inr ⟨rfl, es', rfl, i1⟩) (tdict_write g I ha z2 dd' hs i2 ?_) ry
        rw [← i1.length]
        have : (dput kvs (.tup ds) (.tup qk) dv).length ≤ kvs.length + 1 := by
          unfold dput
          split
          · rw [List.length_map]; omega
          · rw [List.length_append]; exact Nat.le_refl _
        have := size_of_lt hl
        omega
theorem flat_one {d : D} {v : V} (c : flatD d = true) (x : Den Γ ι F d v) : flatV v = true := by
  cases d <;> first | (cases x; rfl) | cases c
theorem flat_eq {d e : D} {v u : V} (c1 : flatD d = true) (c2 : flatD e = true) (x : Den Γ ι F d v) (y : Den Γ ι F e u) : eqV v u = eqF d e := by
  cases d <;> first | exact (Bool.false_ne_true c1).elim | (cases e <;> first | exact (Bool.false_ne_true c2).elim | (cases x; cases y; rfl))
theorem flat_all {ds : List D} {vs : List V} {y : D} {yv : V} (c : flatD y = true) (hy : Den Γ ι F y yv) (cs : ds.all flatD = true) (x : Dens Γ ι F ds vs) :
    flatV yv = true ∧ vs.all flatV = true ∧ ∀ (j : Nat) (d : D) (v : V), ds[j]? = some d → vs[j]? = some v → eqV v yv = eqF d y := by
  refine ⟨flat_one c hy, List.all_eq_true.mpr fun v hv => ?_, fun j d v e1 e2 => ?_⟩
  · obtain ⟨j, hj, e⟩ := List.getElem_of_mem hv
    have hj' : j < ds.length := by rw [x.length]; exact hj
    obtain ⟨v', e1, e2⟩ := x.get (List.getElem?_eq_getElem hj')
    rw [List.getElem?_eq_getElem hj, e] at e1
    cases e1
    exact flat_one (List.all_eq_true.mp cs _ (List.getElem_mem hj')) e2
  · obtain ⟨v', e3, e4⟩ := x.get e1
    rw [e2] at e3; cases e3
    exact flat_eq (List.all_eq_true.mp cs d (List.mem_of_getElem? e1)) c e4 hy
theorem mt_bmtZ (g : Gx Γ X) (b : Bm) (fz : Bool) : MtR X (bmI b) (r2Bm Γ base b fz) := by
  intro pins s σ H x xs v us Q I rx rxs ⟨bs, G, ι, F, m, dx, ds, E, R, hx, hds, h⟩
  unfold bmtD at h
  split at h
  · -- append
    rename_i y
    obtain ⟨yv, rfl, hy⟩ := hds.one_inv
    split at h
    · rename_i i
      split at h
      · rename_i es hm
        split at h
        · rename_i c
          obtain ⟨a, vs, rfl, ha, hH, dn⟩ := R.lst hm hx
          obtain ⟨R', h'⟩ := Pst.put R ha hm (o := .lst (es ++ [y])) (ho := .lst (vs ++ [yv])) ⟨_, rfl, dn.append (.one hy)⟩ (fun q n q2 => belows_append q2 (by show (below n y && true) = true; rw [pure_below n y q]; rfl)) h
          exact mt_append pins s σ H _ _ v us Q I rx rxs ⟨a, vs, yv, rfl, rfl, hH, by rw [← dn.length]; exact size_of_lt c, Pst.done R' h' rfl⟩
        · exact (Pst.bad h).elim
      · exact (Pst.bad h).elim
    · exact (Pst.bad h).elim
  · -- extend
    rename_i y
    obtain ⟨yv, rfl, hy⟩ := hds.one_inv
    split at h
    · rename_i i
      split at h
      · rename_i es fs hm e2
        split at h
        · rename_i c
          obtain ⟨a, vs, rfl, ha, hH, dn⟩ := R.lst hm hx
          obtain ⟨b', ws, rfl, hB, dw⟩ := R.getW e2 hy
          obtain ⟨R', h'⟩ := Pst.put R ha hm (o := .lst (es ++ fs)) (ho := .lst (vs ++ ws)) ⟨_, rfl, dn.append dw⟩ (fun q n q2 => belows_append q2 (pures_below n fs q)) h
          exact mt_extend pins s σ H _ _ v us Q I rx rxs ⟨a, b', vs, ws, rfl, rfl, hH, hB, by rw [← dn.length, ← dw.length, sizeLine_eq]; exact c, Pst.done R' h' rfl⟩
        · exact (Pst.bad h).elim
      · exact (Pst.bad h).elim
    · exact (Pst.bad h).elim
  · -- pop
    have exs : xs = [] := hds
    subst exs
    split at h
    · rename_i i
      split at h
      · rename_i es hm
        split at h
        · rename_i y e
          obtain ⟨a, vs, rfl, ha, hH, dn⟩ := R.lst hm hx
          obtain ⟨yv, e1, e2⟩ := dn.get e
          obtain ⟨R', h'⟩ := Pst.put R ha hm (o := .lst es.dropLast) (ho := .lst vs.dropLast) ⟨_, rfl, dn.dropLast⟩ (fun _ n q2 => belows_sub q2 fun z hz => List.dropLast_subset _ hz) h
          exact mt_pop pins s σ H _ _ v us Q I rx rxs ⟨a, vs, yv, rfl, rfl, hH, by rw [← dn.length]; exact e1, Pst.done R' h' e2⟩
        · exact (Pst.bad h).elim
      · exact (Pst.bad h).elim
    · exact (Pst.bad h).elim
  · -- popAt
    obtain ⟨yv, rfl, hy⟩ := hds.one_inv
    cases hy
    split at h
    · rename_i i
      split at h
      · rename_i es hm
        split at h
        · rename_i j e0
          split at h
          · rename_i y e
            obtain ⟨a, vs, rfl, ha, hH, dn⟩ := R.lst hm hx
            obtain ⟨yv, e1, e2⟩ := dn.get e
            obtain ⟨R', h'⟩ := Pst.put R ha hm (o := .lst (es.eraseIdx j)) (ho := .lst (vs.eraseIdx j)) ⟨_, rfl, dn.eraseIdx j⟩ (fun _ n q2 => belows_sub q2 fun z hz => List.mem_of_mem_eraseIdx hz) h
            obtain ⟨k1, k2, k3, k4⟩ := ixN_seq e0
            have z : vs.length ≤ sizeLine := (I.hok a _ hH).1
            have z2 := dn.length
            rw [sizeLine_eq] at z
            exact mt_popAt pins s σ H _ _ v us Q I rx rxs ⟨a, vs, _, j, yv, rfl, rfl, hH, by omega, by omega, by rw [← dn.length]; exact k1, e1, Pst.done R' h' e2⟩
          · exact (Pst.bad h).elim
        · exact (Pst.bad h).elim
      · exact (Pst.bad h).elim
    · exact (Pst.bad h).elim
  · -- get1
    rename_i k
    obtain ⟨kv, rfl, hk⟩ := hds.one_inv
    obtain ⟨u, rfl, ru⟩ := vals1 rxs
    split at h
    · rename_i t kvs e
      obtain ⟨q, e1, h⟩ := Pst.ofO h
      obtain ⟨a, o, rfl, ha, hd⟩ := R.getK e hx
      cases rx
      exact dct_get g I R ha hd hk ru e1 fun v w' s' d1 r1 I' => ⟨v, H, I', r1, Pst.done R h d1⟩
    · exact (Pst.bad h).elim
  · -- get2
    rename_i k d
    obtain ⟨kv, dv, rfl, hk, hdv⟩ := hds.two_inv
    obtain ⟨u, r, rfl, ru, rr⟩ := vals2 rxs
    split at h
    · rename_i t kvs e
      obtain ⟨q, e1, h⟩ := Pst.ofO h
      obtain ⟨a, o, rfl, ha, hd⟩ := R.getK e hx
      cases rx
      exact dct_get2 g I R ha hd hk ru hdv rr e1 fun v w' s' d1 r1 I' => ⟨v, H, I', r1, Pst.done R h d1⟩
    · exact (Pst.bad h).elim
  · -- pop of a dict
    rename_i k
    obtain ⟨kv, rfl, hk⟩ := hds.one_inv
    obtain ⟨u, rfl, ru⟩ := vals1 rxs
    split at h
    · rename_i i
      split at h
      · rename_i t kvs hm
        obtain ⟨q, e1, h⟩ := Pst.ofO h
        split at h
        · rename_i d e2
          obtain ⟨a, ho, rfl, ha, hH, hd⟩ := R.dct hm hx
          cases rx
          refine dct_pop g I R hH hd hk ru e1 e2 fun v w' o' s' d1 r1 d2 I' => ?_
          obtain ⟨R', h'⟩ := Pst.put R ha hm (o := .dct t (ddel kvs q)) (ho := o') d2 (fun _ n q2 => belowKV_del q2) h
          exact ⟨v, _, I', r1, Pst.done R' h' d1⟩
        · exact (Pst.bad h).elim
      · exact (Pst.bad h).elim
    · exact (Pst.bad h).elim
  · -- setdefault
    rename_i k d
    obtain ⟨kv, dv, rfl, hk, hdv⟩ := hds.two_inv
    obtain ⟨u, r, rfl, ru, rr⟩ := vals2 rxs
    split at h
    · rename_i i
      split at h
      · rename_i t kvs hm
        split at h
        · rename_i c
          obtain ⟨q, e1, h⟩ := Pst.ofO h
          obtain ⟨a, ho, rfl, ha, hH, hd⟩ := R.dct hm hx
          cases rx
          refine dct_setd g I R hH hd hk ru hdv rr e1 c (fun d' v w' s' e2 d1 r1 I' => ?_) fun o' s' w' e2 d2 I' r1 => ?_
          · rw [e2] at h
            exact ⟨v, H, I', r1, Pst.done R h d1⟩
          · rw [e2] at h
            obtain ⟨R', h'⟩ := Pst.put R ha hm (o := .dct t (dput kvs k q d)) (ho := o') d2 (fun z n q2 => by rw [Bool.and_eq_true] at z; exact belowKV_put q2 (pure_below n k z.1) (pure_below n d z.2)) h
            exact ⟨dv, _, I', r1, Pst.done R' h' hdv⟩
        · exact (Pst.bad h).elim
      · exact (Pst.bad h).elim
    · exact (Pst.bad h).elim
  · -- index
    rename_i y
    obtain ⟨yv, rfl, hy⟩ := hds.one_inv
    split at h
    · rename_i es e
      split at h
      · rename_i c
        obtain ⟨j, e1, h⟩ := Pst.ofO h
        obtain ⟨a, vs, rfl, k1, dn⟩ := R.getL e hx
        rw [g.K] at k1
        obtain ⟨f1, f2, f3⟩ := flat_all c.1 hy c.2 dn
        obtain ⟨hj, g1, g2⟩ := List.findIdx?_eq_some_iff_getElem.mp e1
        have e2 : es[j]? = some es[j] := List.getElem?_eq_getElem hj
        obtain ⟨zv, z1, z2⟩ := dn.get e2
        refine mt_index pins s σ H _ _ v us Q I rx rxs ⟨a, vs, yv, j, zv, rfl, rfl, k1, f1, f2, z1, ?_, fun k zv' hk hz' => ?_, Pst.done R h rfl⟩
        · rw [f3 j es[j] zv e2 z1]; exact g1
        · have hk' : k < es.length := Nat.lt_trans hk hj
          have e3 : es[k]? = some es[k] := List.getElem?_eq_getElem hk'
          rw [f3 k es[k] zv' e3 hz']
          simpa using g2 k hk
      · exact (Pst.bad h).elim
    · exact (Pst.bad h).elim
  · exact (Pst.bad h).elim

/-! ### stores -/
def tSetZ (Γ : Gl0) (base : Nat) : TSet := fun o i v H Q => ∃ bs G ι F m do_ di dv E, HR Γ base bs G ι F m H ∧ Den Γ ι F do_ o ∧ Den Γ ι F di i ∧ Den Γ ι F dv v ∧ Pst ⟨Γ, base, bs, G⟩ relU ι F (fun _ H' => Q H') E (setD base do_ di dv m)
theorem set_itemZ (g : Gx Γ X) : PSet X (tSetZ Γ base) := by
  intro pins s σ H o i v ov iv u Q I ro ri rv ⟨bs, G, ι, F, m, do_, di, dv, E, R, hx, hi, hv, h⟩
  unfold setD at h
  split at h
  · rename_i a
    split at h
    · rename_i es hm
      split at h
      · rename_i k
        split at h
        · rename_i j e
          obtain ⟨p, vs, rfl, ha, hH, dn⟩ := R.lst hm hx
          cases hi
          exact set_list pins s σ H _ _ _ ov iv u Q I ro ri rv ⟨p, vs, k, j, rfl, rfl, hH, by rw [← dn.length]; exact e,
            Pst.put0 R ha hm (o := .lst (es.set j dv)) (ho := .lst (vs.set j v)) ⟨_, rfl, dn.set j hv⟩ (fun q n q2 => belows_set j q2 (pure_below n dv q)) h⟩
        · exact (Pst.bad h).elim
      · exact (Pst.bad h).elim
    · rename_i t kvs hm
      split at h
      · rename_i k e
        split at h
        · rename_i c
          obtain ⟨p, ho, rfl, ha, hH, hd⟩ := R.dct hm hx
          cases ro
          exact dct_set g I R hH hd hi hv ri rv e c fun o' s' d2 I' => ⟨_, I', Pst.put0 R ha hm (o := .dct t (dput kvs di k dv)) (ho := o') d2 (fun z n q2 => by rw [Bool.and_eq_true] at z; exact belowKV_put q2 (pure_below n di z.1) (pure_below n dv z.2)) h⟩
        · exact (Pst.bad h).elim
      · exact (Pst.bad h).elim
    · exact (Pst.bad h).elim
  · exact (Pst.bad h).elim
end
end Zi
set_option maxHeartbeats 4000000
/-! Z5e: operators that change, what is walked. -/
namespace Zi
open PySem PySem.Spec PyProof.Rows L2
section
variable {X : Cx} {Γ : Gl0} {base : Nat}
theorem iopZ (g : Gx Γ X) (op : Operator) : PIp X op (r2Z Γ base (iopD base op)) := by
  intro pins s σ H x y v u Q I rx ry ⟨bs, G, ι, F, m, dx, dy, E, R, hx, hy, h⟩
  unfold iopD at h
  split at h
  · split at h
    · rename_i es fs hm e2
      split at h
      · rename_i c
        obtain ⟨a, vs, rfl, ha, hH, dn⟩ := R.lst hm hx
        obtain ⟨b', ws, rfl, hB, dw⟩ := R.getW e2 hy
        obtain ⟨R', h'⟩ := Pst.put R ha hm (o := .lst (es ++ fs)) (ho := .lst (vs ++ ws)) ⟨_, rfl, dn.append dw⟩ (fun q n q2 => belows_append q2 (pures_below n fs q)) h
        exact iop_ext pins s σ H _ _ v u Q I rx ry ⟨a, b', vs, ws, rfl, rfl, hH, hB, by rw [← dn.length, ← dw.length, sizeLine_eq]; exact c, Pst.done R' h' hx⟩
      · exact (Pst.bad h).elim
    · exact (Pst.bad h).elim
  · cases hx; cases hy; exact iop_add pins s σ H _ _ v u Q I rx ry ⟨_, _, rfl, rfl, Pst.done R h rfl⟩
  · cases hx; cases hy; exact iop_sub pins s σ H _ _ v u Q I rx ry ⟨_, _, rfl, rfl, Pst.done R h rfl⟩
  · split at h
    · rename_i c
      cases hx; cases hy
      refine iop_mul pins s σ H _ _ v u Q I rx ry ⟨_, _, rfl, rfl, ?_, Pst.done R h rfl⟩
      exact mulOk_of c
    · exact (Pst.bad h).elim
  · split at h
    · rename_i c
      cases hx; cases hy; exact iop_fdiv pins s σ H _ _ v u Q I rx ry ⟨_, _, rfl, rfl, ⟨c.1, by have := natB_ok.mp c.2; omega⟩, Pst.done R h rfl⟩
    · exact (Pst.bad h).elim
  · split at h
    · rename_i c
      cases hx; cases hy; exact iop_mod pins s σ H _ _ v u Q I rx ry ⟨_, _, rfl, rfl, c, Pst.done R h rfl⟩
    · exact (Pst.bad h).elim
  · split at h
    · rename_i c
      cases hx; cases hy; exact iop_add_str pins s σ H _ _ v u Q I rx ry ⟨_, _, rfl, rfl, by rw [sizeLine_eq]; exact c, Pst.done R h rfl⟩
    · exact (Pst.bad h).elim
  · exact (Pst.bad h).elim

/-! ### what is walked -/
def ItSp (Γ : Gl0) (base : Nat) (ι : List Addr) (F : Hp) (J : L2.It) (ds : List D) (lk : List (Nat × Ob)) : Prop :=
  ∀ (i : Nat) bs G ι' F' m H, Ext ι F ι' F' → HR Γ base bs G ι' F' m H → sameB lk m = true →
    (i < ds.length → J.go i H ∧ ∀ x H', J.yld i H x H' → ∃ F'' d, Ext ι' F' ι' F'' ∧ HR Γ base bs G ι' F'' m H' ∧ ds[i]? = some d ∧ Den Γ ι' F'' d x) ∧ (ds.length ≤ i → J.stop i H)
abbrev relI (Γ : Gl0) (base : Nat) : List Addr → Hp → It1 → L2.It → Prop := fun ι F q J => ItSp Γ base ι F J q.1 q.2
abbrev tI (Γ : Gl0) (base : Nat) (W : WX) (g : Ev → MH → R It1) : TI := tZ Γ base W (relI Γ base) g
theorem lock_ref {m : MH} {i : Nat} {o : Ob} (h : m[i]? = some (some o)) : lockOf m (.ref i) = [(i, o)] := by
  show (match m[i]? with
    | some (some o) => [(i, o)]
    | _ => []) = _
  rw [h]
theorem sameB_at {lk : List (Nat × Ob)} {m : MH} {i : Nat} {o : Ob} (h : sameB lk m = true) (hm : (i, o) ∈ lk) : m[i]? = some (some o) := by
  have := List.all_eq_true.mp h _ hm
  split at this
  · rename_i o' e
    have q : o = o' := eq_of_sameOb _ _ this
    rw [q]
    exact e
  · cases this
/-- a list, as it stands while it is walked -/
theorem list_still {bs : List Nat} {G : Hp} {ι : List Addr} {F : Hp} {m : MH} {H : Hp} (R : HR Γ base bs G ι F m H) {d : D} {ds : List D} {v : V} (e : getL m d = some ds) (x : Den Γ ι F d v) : ∃ a, v = .ref a ∧ (∃ xs, SqL Γ.K H a xs) ∧
    ∀ bs G ι' F' m' H', Ext ι F ι' F' → HR Γ base bs G ι' F' m' H' → sameB (lockOf m d) m' = true → ∃ vs, SqL Γ.K H' a vs ∧ Dens Γ ι' F' ds vs := by
  obtain ⟨a, vs, rfl, k1, d1⟩ := R.getL e x
  refine ⟨a, rfl, ⟨vs, k1⟩, fun bs' G' ι' F' m' H' ee R' sm => ?_⟩
  have go : ∀ ds', getL m' d = some ds' → Dens Γ ι' F' ds' = Dens Γ ι' F' ds → ∃ vs, SqL Γ.K H' a vs ∧ Dens Γ ι' F' ds vs := fun ds' e' q => by
    obtain ⟨a', vs', e1, k', d'⟩ := R'.getL e' (x.mono ee)
    cases e1
    exact ⟨vs', k', by rw [← q]; exact d'⟩
  cases d with
  | lst es => exact go ds e rfl
  | kls es => exact go ds e rfl
  | ref i =>
    have e' : (match m[i]? with
      | some (some (.lst ds)) => some ds
      | _ => none) = some ds := e
    split at e'
    · rename_i es hm
      cases e'
      rw [lock_ref hm] at sm
      exact go ds (getL_ref (sameB_at sm List.mem_cons_self)) rfl
    · cases e'
  | _ => cases e
theorem it_list {bs : List Nat} {G : Hp} {ι : List Addr} {F : Hp} {m : MH} {H : Hp} (g : Gx Γ X) (R : HR Γ base bs G ι F m H) {d : D} {ds : List D} {v : V} (e : getL m d = some ds) (x : Den Γ ι F d v) :
    ∃ a, v = .ref a ∧ (∃ xs, SqL X.K H a xs) ∧ ItSp Γ base ι F (Itl X.K a) ds (lockOf m d) := by
  obtain ⟨a, e1, k, st⟩ := list_still R e x
  refine ⟨a, e1, by rw [← g.K]; exact k, fun i bs G ι' F' m' H' ee R' sm => ?_⟩
  obtain ⟨vs, k1, dn⟩ := st bs G ι' F' m' H' ee R' sm
  rw [g.K] at k1
  refine ⟨fun hi => ?_, fun hi => ⟨vs, k1, by rw [← dn.length]; exact hi⟩⟩
  have e2 : ds[i]? = some ds[i] := List.getElem?_eq_getElem hi
  obtain ⟨y, e3, e4⟩ := dn.get e2
  refine ⟨⟨vs, y, k1, e3⟩, fun x' H2 ⟨q1, q2⟩ => ?_⟩
  subst q1
  have e5 := q2 vs k1
  rw [e3] at e5; cases e5
  exact ⟨F', ds[i], Ext.refl _ _, R', e2, e4⟩
theorem it_tup {bs : List Nat} {G : Hp} {ι : List Addr} {F : Hp} {m : MH} {H : Hp} (g : Gx Γ X) (R : HR Γ base bs G ι F m H) {ds : List D} {v : V} (lk : List (Nat × Ob)) (x : Den Γ ι F (.tup ds) v) :
    ∃ a, v = .ref a ∧ (∃ xs, SqT X.K H a xs) ∧ ItSp Γ base ι F (Itt X.K a) ds lk := by
  obtain ⟨a, vs, rfl, k, dn⟩ := id x
  refine ⟨a, rfl, ⟨vs, by rw [← g.K]; exact R.f.seqT k⟩, fun i bs G ι' F' m' H' ee R' sm => ?_⟩
  have k1 := R'.f.seqT (ee.sub.seqT k)
  have dn' := dn.mono ee
  rw [g.K] at k1
  refine ⟨fun hi => ?_, fun hi => ⟨vs, k1, by rw [← dn.length]; exact hi⟩⟩
  have e2 : ds[i]? = some ds[i] := List.getElem?_eq_getElem hi
  obtain ⟨y, e3, e4⟩ := dn'.get e2
  refine ⟨⟨vs, y, k1, e3⟩, fun x' H2 ⟨q1, q2⟩ => ?_⟩
  subst q1
  have e5 := q2 vs k1
  rw [e3] at e5; cases e5
  exact ⟨F', ds[i], Ext.refl _ _, R', e2, e4⟩
theorem it_str {ι : List Addr} {F : Hp} (z : Str) (lk : List (Nat × Ob)) : ItSp Γ base ι F (L2.Its z) (z.cps.toList.map fun c => .str ⟨#[c]⟩) lk := by
  intro i bs G ι' F' m' H' ee R' sm
  rw [List.length_map, Array.length_toList]
  refine ⟨fun hi => ⟨hi, fun x' H2 ⟨q1, c, q2, q3⟩ => ?_⟩, fun hi => hi⟩
  subst q1 q3
  exact ⟨F', .str ⟨#[c]⟩, Ext.refl _ _, R', by rw [List.getElem?_map, Array.getElem?_toList, q2]; rfl, rfl⟩
/-! the keys of a pinned dict -/
def Itp (d : Addr) (o : Obj) (u : HO) (es : Array DictEntry) : L2.It :=
  ⟨fun i H => H d = some (.frz o u) ∧ i < es.size, fun i H x H' => H' = H ∧ ∃ en, es[i]? = some en ∧ RelV x en.key, fun i H => H d = some (.frz o u) ∧ es.size ≤ i⟩
theorem turn_pinned {P : Program} {w : World} {K : PySem.W.Frag} {tg : Expr} {d : Addr} {o : Obj} {u : HO} {es : Array DictEntry} {ep : Nat} (ab : ∀ i (hi : i < es.size), ∃ x, RelV x es[i].key) (it : Addr) (hod : o.data = .dict es ep) : Turn P w K tg (Itp d o u es) [it] it (fun i h => h.IsKeyIter it d i es.size ep) where
  mem := by simp
  obj := fun i h st b hb => by
    have e : b = it := by simpa using hb
    subst e
    obtain ⟨oi, e, c, dd⟩ := st
    exact ⟨oi, e, fun v z => by rw [dd] at z; cases z⟩
  keep := fun i h h' st k => st.at fun oi e => k it (by simp) oi e
  item := by
    intro X hP hw hK hc i pins s σ H E I hf st hg
    subst hP hw hK
    obtain ⟨hd, hi⟩ := hg
    obtain ⟨f0, f1, f2, f3, f4, f5⟩ := hf it (by simp)
    have hgd : s.heap.get? d = some o := (I.hok d _ hd).1
    have hen : es[i]? = some es[i] := Array.getElem?_eq_getElem hi
    obtain ⟨xv, rx⟩ := ab i hi
    refine next_key_item st hgd hod rfl hen fun h' st' sb => ?_
    have I1 : Inv X pins σ H { s with heap := h' } := I.turned (t' := s.toks) (fun b ob hb e => (sb.2 b hb).trans e) f0 f1 f3 f4 f5
    obtain ⟨oi, e, c, dd⟩ := id st'
    exact ⟨es[i].key, rfl, go_of (s := { s with heap := h' }) e c dd (by decide) ⟨xv, H, I1, rx, ⟨rfl, _, hen, rx⟩, st', fun b hb => (hf b hb).1⟩⟩
  done := by
    intro X hP hw hK hc i pins s σ H E I hf st hg
    subst hP hw hK
    obtain ⟨hd, hi⟩ := hg
    obtain ⟨f0, f1, f2, f3, f4, f5⟩ := hf it (by simp)
    have hgd : s.heap.get? d = some o := (I.hok d _ hd).1
    exact next_key_end (I.ok.hd hc) st hgd hod rfl hi fun h' eb => ⟨rfl, I.turned (t' := s.toks) (fun b o hb e => eb b o hb e) f0 f1 f3 f4 f5⟩
  self := fun A i s Q E st h => by
    refine wpAny_pyIter_slot st.typeIs PySem.F.slot_dict_keyiterator_iter (wpAny_call_entry PySem.F.slot_dict_keyiterator_iter st.typeIs PySem.F.entry_dict_keyiterator_iter ?_ (PySem.F.args_dict_keyiterator_iter_1 _))
    show wpAny _ _ (ret (.ref it)) _ _ s
    exact wpAny_pure ⟨_, rfl, "dict_keyiterator", _, st.typeIs, PySem.F.slot_dict_keyiterator_next.lookup, h⟩
end
end Zi
set_option maxHeartbeats 4000000
/-! Z5f: sources of loops. -/
namespace Zi
open PySem PySem.Spec PyProof.Rows L2
section
variable {X : Cx} {Γ : Gl0} {base : Nat} {tg : Expr}
theorem DctDen.pin {ι : List Addr} {F : Hp} {kvs : List (D × D)} {t : Bool} {v : V} (x : Den Γ ι F (.dct t kvs) v) : ∃ a o u, v = .ref a ∧ F a = some (.frz o u) ∧ DctDen Γ ι F a t kvs u := by
  obtain ⟨a, h1, h3⟩ := x
  rcases h3 with ⟨y, o, es, q, z⟩ | ⟨y, o, es, q, z⟩
  · exact ⟨a, o, _, h1, q, .inl ⟨y, es, rfl, z⟩⟩
  · exact ⟨a, o, _, h1, q, .inr ⟨y, es, rfl, z⟩⟩
theorem relV_any : ∀ {v : V} {u : Value}, RelV v u → ∃ x, RelV x u := fun h => ⟨_, h⟩
/-- a pinned dict's keys, as they stand in the heap -/
theorem pinned_keys {pins : List (Addr × Obj)} {σ : L2.St} {s : Shared} {bs : List Nat} {G : Hp} {ι : List Addr} {F : Hp} {m : MH} {H : Hp} (g : Gx Γ X) (I : Inv X pins σ H s) (R : HR Γ base bs G ι F m H) {a : Addr} {o : Obj} {u : HO} {t : Bool} {kvs : List (D × D)} (e : F a = some (.frz o u)) (d : DctDen Γ ι F a t kvs u) :
    (a == sysModules) = false ∧ s.heap.get? a = some o ∧ o.ExactDict ∧ ∃ (es : Array DictEntry) (ep : Nat), o.data = .dict es ep ∧ es.size = kvs.length ∧ ∀ (i : Nat) (hi : i < es.size), ∃ x dk, (kvs.map (·.1))[i]? = some dk ∧ Den Γ ι F dk x ∧ RelV x es[i].key := by
  have hH := R.f _ _ e
  rcases d with ⟨rfl, es, rfl, d⟩ | ⟨rfl, es, rfl, d⟩
  · obtain ⟨hs, hgd, hx, en, ep, vs, hdt, hsz, kv, hm⟩ := I.frzK hH
    refine ⟨hs, hgd, hx, en, ep, hdt, by rw [hsz, d.length], fun i hi => ?_⟩
    have hi' : i < es.length := by rw [← hsz]; exact hi
    have e1 : es[i]? = some es[i] := List.getElem?_eq_getElem hi'
    obtain ⟨w', e2, _⟩ := kv_get kv (k := es[i].1) (v := es[i].2) e1
    obtain ⟨o2, es2, k1, k2, k3, k4, k5, k6⟩ := hm
    rw [hgd] at k1; cases k1
    obtain ⟨rfl, _⟩ := dict_ep hdt k3
    obtain ⟨e3, _⟩ := k5.get? (e := es2[i]) (by simp [hi]) e2
    have dn := d.keysD
    have e4 : (es.map fun e => kV e.1)[i]? = some (kV es[i].1) := by rw [List.getElem?_map, e1]; rfl
    have hi2 : i < (kvs.map (·.1)).length := by rw [dn.length, List.length_map]; exact hi'
    obtain ⟨y, e5, e6⟩ := dn.get (List.getElem?_eq_getElem hi2)
    rw [e4] at e5; cases e5
    exact ⟨_, _, List.getElem?_eq_getElem hi2, e6, relV_key e3⟩
  · obtain ⟨z1, z2, vs, pt, dd⟩ := tdict_of I g.K g.w R.f (.inr ⟨o, hH⟩) d
    obtain ⟨o', en, ep, h1, h2, h3, h4, h5, h6⟩ := dd
    have hgd : s.heap.get? a = some o := (I.hok a _ hH).1
    rw [hgd] at h1; cases h1
    have hl0 : en.size = es.length := by
      rw [← Array.length_toList, h4, List.length_map]; exact (Paired.length pt).symm
    refine ⟨z2, hgd, h2, en, ep, h3, by rw [hl0, d.length], fun i hi => ?_⟩
    have hi' : i < es.length := by rw [← hl0]; exact hi
    have e1 : es[i]? = some es[i] := List.getElem?_eq_getElem hi'
    obtain ⟨q', e5, e6, e7, e8⟩ := paired_get pt e1
    have e9 : en.toList[i]? = some (entryOfKey (nestedKind X.prog X.w) q') := by rw [h4, List.getElem?_map, e5]; rfl
    have e10 : en[i] = entryOfKey (nestedKind X.prog X.w) q' := by
      rw [Array.getElem?_toList, Array.getElem?_eq_getElem hi] at e9
      exact Option.some.inj e9
    have dn := d.keysD
    have e4 : (es.map fun e => V.ref e.2.1)[i]? = some (V.ref es[i].2.1) := by rw [List.getElem?_map, e1]; rfl
    have hi2 : i < (kvs.map (·.1)).length := by rw [dn.length, List.length_map]; exact hi'
    obtain ⟨y, f5, f6⟩ := dn.get (List.getElem?_eq_getElem hi2)
    rw [e4] at f5; cases f5
    refine ⟨_, _, List.getElem?_eq_getElem hi2, f6, ?_⟩
    rw [e10]
    show Value.ref q'.2.1 = Value.ref es[i].2.1
    rw [e7]
theorem pyIterZ {pins : List (Addr × Obj)} {σ : L2.St} {s : Shared} {bs : List Nat} {G : Hp} {ι : List Addr} {F : Hp} {m : MH} {H : Hp} {Rq : L2.It → Hp → Prop} (g : Gx Γ X) (I : Inv X pins σ H s) (R : HR Γ base bs G ι F m H) {d : D} {ds : List D} {x : V} {v : Value} (hx : Den Γ ι F d x) (rx : RelV x v) (e : seqD m d = some ds)
    (q : ∀ J, ItSp Γ base ι F J ds (lockOf m d) → Rq J H) : wpAny (model X.prog X.w) X.A (pyIter v) (PIE X pins σ tg Rq) X.xe s := by
  have lst : ∀ ds', getL m d = some ds' → (∀ J, ItSp Γ base ι F J ds' (lockOf m d) → Rq J H) → wpAny (model X.prog X.w) X.A (pyIter v) (PIE X pins σ tg Rq) X.xe s := fun ds' e' q' => by
    obtain ⟨a, rfl, ⟨xs, k⟩, sp⟩ := it_list (X := X) g R e' hx
    cases rx
    obtain ⟨its, rv, p, hz⟩ := I.list k
    refine wpAny_pyIter_list p.isList ?_
    refine ⟨s.heap.objs.size, [s.heap.objs.size], _, _, H, rfl, I.kept (t' := s.toks) fun b o e => Heap.get?_push_of_some _ e, turn_list a _, ⟨_, Heap.get?_push_size _ rfl, rfl, rfl⟩, fun b hb => ?_, q' _ sp⟩
    have e : b = s.heap.objs.size := by simpa using hb
    subst e
    exact I.fpOk (Nat.le_refl _) (I.hok.fresh (Nat.le_refl _))
  cases d with
  | tup es =>
    cases e
    obtain ⟨a, rfl, ⟨xs, k⟩, sp⟩ := it_tup (X := X) g R (lockOf m (.tup ds)) hx
    cases rx
    obtain ⟨its, rv, p, hz⟩ := I.tuple k
    refine wpAny_pyIter_tuple (show s.heap.IsTuple a its.toArray from p) ?_
    refine ⟨s.heap.objs.size, [s.heap.objs.size], _, _, H, rfl, I.kept (t' := s.toks) fun b o e => Heap.get?_push_of_some _ e, turn_tuple a _, ⟨_, Heap.get?_push_size _ rfl, rfl, rfl⟩, fun b hb => ?_, q _ sp⟩
    have e : b = s.heap.objs.size := by simpa using hb
    subst e
    exact I.fpOk (Nat.le_refl _) (I.hok.fresh (Nat.le_refl _))
  | dct t kvs =>
    cases e
    obtain ⟨a, o, u, rfl, hF, dd⟩ := DctDen.pin hx
    cases rx
    obtain ⟨hs, hgd, hxd, es, ep, hdt, hsz, ent⟩ := pinned_keys (X := X) g I R hF dd
    refine iter_keys hs hgd hxd hdt (pi_one (tk := s.toks) I _ (turn_pinned (u := u) (fun i hi => let ⟨x, _, _, _, r⟩ := ent i hi; ⟨x, r⟩) _ hdt) ⟨_, Heap.get?_push_size _ rfl, rfl, rfl⟩ (q _ ?_))
    intro i bs' G' ι' F' m' H' ee R' _
    have hH := R'.f _ _ (ee.sub _ _ hF)
    rw [List.length_map]
    refine ⟨fun hi => ⟨⟨hH, by rw [hsz]; exact hi⟩, fun x' H2 ⟨q1, en, q2, q3⟩ => ?_⟩, fun hi => ⟨hH, by rw [hsz]; exact hi⟩⟩
    subst q1
    have hi2 : i < es.size := by rw [hsz]; exact hi
    obtain ⟨y, dk, e1, e2, e3⟩ := ent i hi2
    rw [Array.getElem?_eq_getElem hi2] at q2
    cases q2
    rw [q3.inj e3]
    exact ⟨F', dk, Ext.refl _ _, R', e1, e2.mono ee⟩
  | str z =>
    cases e
    cases hx
    obtain ⟨t, rfl⟩ := rx
    have sp := it_str (Γ := Γ) (base := base) (ι := ι) (F := F) z (lockOf m (.str z))
    cases ha : z.cps.all (· < 128)
    · exact wpAny_pyIter_wide ha (pi_one (tk := s.toks) I _ (turn_str _ z t "str_iterator" (.inr rfl)) ⟨_, Heap.get?_push_size _ rfl, rfl, rfl⟩ (q _ sp))
    · exact wpAny_pyIter_ascii ha (pi_one (tk := s.toks) I _ (turn_str _ z t "str_ascii_iterator" (.inl rfl)) ⟨_, Heap.get?_push_size _ rfl, rfl, rfl⟩ (q _ sp))
  | non => cases e
  | bl _ => cases e
  | int _ => cases e
  | lst _ => exact lst ds e q
  | kls _ => exact lst ds e q
  | ref _ => exact lst ds e q
  | ins _ _ => cases e
/-- what a loop walks, from what its expression gives -/
theorem pi_seqZ {W : WX} {e : Expr} {f : Ev → MH → R D} (g : Gx Γ X) (he : PE X e (tE Γ base W f)) : PI X tg e (tI Γ base W fun ρ m => (f ρ m).bind fun x m => (ofO (seqD m x) m).bind fun ds m => .ok (ds, lockOf m x) m) := by
  refine ⟨fun pins s σ H Rq I ⟨bs, G, ι, F, ρ, m, sr, hr, h⟩ => ?_⟩
  refine thn (he.run pins s σ H _ I ⟨bs, G, ι, F, ρ, m, sr, hr, Pst.bind h⟩) fun v s1 ⟨x, H1, I1, rx, ι1, F1, d, m1, e1, hr1, dx, h1⟩ => ?_
  obtain ⟨ds, e2, h2⟩ := Pst.ofO h1
  exact pyIterZ g I1 hr1 dx rx e2 fun J sp => h2 J ι1 F1 H1 (Ext.refl _ _) hr1 sp
end
end Zi
set_option maxHeartbeats 4000000
/-! Z5z: zip of a tuple and a list, by the library's zip over drawn iterators. -/
namespace Zi
open PySem PySem.Spec PyProof.Rows L2
theorem apart_sep {z TI TO i1 i2 a b : Addr} (D : ZipApart z TI TO i1 i2 a b) : ZipSep2 z TI TO i1 i2 [i1, a] [i2, b] where
  TIz := D.TIz
  TOz := D.TOz
  TITO := D.TITO
  TIi1 := D.TIi1
  mem1 := List.mem_cons_self
  zf1 := by simp [D.i1z.symm, D.l1z.symm]
  Tf1 := by simp [D.TOi1, D.l1TO.symm]
  TIi2 := D.TIi2
  mem2 := List.mem_cons_self
  zf2 := by simp [D.i2z.symm, D.l2z.symm]
  Tf2 := by simp [D.TOi2, D.l2TO.symm]
  sep1_2 := by simp [D.i12, D.l2i1.symm]
  sep2_1 := by simp [D.i12.symm, D.l1i2.symm]
/-- a tuple's and a list's items in new pairs, as both stand at each turn -/
def ItzM (K : PySem.W.Frag) (a b : Addr) : L2.It where
  go i H := ∃ (xs ys : List V) (x y : V), SqT K H a xs ∧ SqL K H b ys ∧ xs[i]? = some x ∧ ys[i]? = some y
  yld i H v H' := ∃ T x y, v = .ref T ∧ H T = none ∧ H' = upd H T (.tup [x, y]) ∧ (∀ l, SqT K H a l → l[i]? = some x) ∧ ∀ l, SqL K H b l → l[i]? = some y
  stop i H := ∃ xs ys : List V, SqT K H a xs ∧ SqL K H b ys ∧ (xs.length ≤ i ∨ ys.length ≤ i)
/-- how the zip's five cells stand -/
def StM (z TI TO i1 i2 a b : Addr) (i : Nat) (h : Heap) : Prop := IsZip h z TI TO .none ∧ IsPair h TI (.ref i1) (.ref i2) ∧ (∃ p q, IsPair h TO p q) ∧ h.IsTupleIter i1 a i ∧ h.IsListIter i2 b i
theorem in5 {z TI TO i1 i2 c : Addr} {p : Addr → Prop} (h : c ∈ [z, TI, TO, i1, i2]) (h1 : p z) (h2 : p TI) (h3 : p TO) (h4 : p i1) (h5 : p i2) : p c := by
  simp only [List.mem_cons, List.not_mem_nil, or_false] at h
  rcases h with rfl | rfl | rfl | rfl | rfl <;> assumption
theorem out_tuple {prog : Program} {w : World} {A : Around} (hh : A.handled = none) {it t : Addr} {items : Array Value} {i : Nat} (hx : items[i]? = none) :
    Draws prog w A it [it, t] i (fun _ _ => True) (fun k h => k = i ∧ h.IsTupleIter it t i ∧ h.IsTuple t items) where
  live _ _ st := let ⟨o, ho, _⟩ := st.2.1; ⟨o, ho⟩
  frame _ _ _ st hk := ⟨st.1, st.2.1.at fun o e => hk it (by simp) o e, st.2.2.at fun o e => hk t (by simp) o e⟩
  item k s Q E hi st _ := absurd st.1 (Nat.ne_of_lt hi)
  done s Q E st hE := RZ.nextOf_tuple_end hh st.2.1 st.2.2 hx hE
theorem out_list {prog : Program} {w : World} {A : Around} (hh : A.handled = none) {it t : Addr} {items : Array Value} {i : Nat} (hx : items[i]? = none) :
    Draws prog w A it [it, t] i (fun _ _ => True) (fun k h => k = i ∧ h.IsListIter it t i ∧ h.IsList t items) where
  live _ _ st := let ⟨o, ho, _⟩ := st.2.1; ⟨o, ho⟩
  frame _ _ _ st hk := ⟨st.1, st.2.1.at fun o e => hk it (by simp) o e, st.2.2.at fun o e => hk t (by simp) o e⟩
  item k s Q E hi st _ := absurd st.1 (Nat.ne_of_lt hi)
  done s Q E st hE := wpAny_nextOf_list_end hh st.2.1 st.2.2 hx hE
theorem turn_mix {P : Program} {w : World} {K : PySem.W.Frag} {elts : List Expr} {kk : Nat} {tp : Pos} {a b z TI TO i1 i2 : Addr} (D : ZipApart z TI TO i1 i2 a b) :
    Turn P w K (.Tuple elts kk tp) (ItzM K a b) [z, TI, TO, i1, i2] z (StM z TI TO i1 i2 a b) where
  mem := List.mem_cons_self
  obj := fun i h st c hc => by
    obtain ⟨s1, s2, ⟨p, q, s3⟩, ⟨o, s4, _, d4⟩, ⟨o', s5, _, d5⟩⟩ := st
    exact in5 (p := fun c => ∃ o, h.get? c = some o ∧ ∀ v, o.data ≠ .cell v) hc ⟨_, s1, fun _ e => nomatch e⟩ ⟨_, s2, fun _ e => nomatch e⟩ ⟨_, s3, fun _ e => nomatch e⟩ ⟨o, s4, fun _ e => by rw [d4] at e; cases e⟩ ⟨o', s5, fun _ e => by rw [d5] at e; cases e⟩
  keep := fun i h h' st k => by
    obtain ⟨s1, s2, ⟨p, q, s3⟩, s4, s5⟩ := st
    have kz := k z (by simp)
    have kI := k TI (by simp)
    have kO := k TO (by simp)
    have k1 := k i1 (by simp)
    have k2 := k i2 (by simp)
    exact ⟨kz _ s1, kI _ s2, ⟨p, q, kO _ s3⟩, s4.at k1, s5.at k2⟩
  item := by
    intro X eP eW eK hc i pins s σ H E I hf st hg
    subst eP eW eK
    obtain ⟨s1, s2, ⟨p0, q0, s3⟩, s4, s5⟩ := st
    obtain ⟨xs, ys, x, y, qx, qy, gx, gy⟩ := hg
    obtain ⟨as, ra, pa, _⟩ := I.tuple qx
    obtain ⟨bs, rb, pb, _⟩ := I.list qy
    obtain ⟨u, hu, ru⟩ := ra.get gx
    obtain ⟨v, hv, rv⟩ := rb.get gy
    have zl : z < s.heap.objs.size := Heap.lt_size s1
    have hh : X.A.in1.handled = none := I.ok.hd hc
    have la : i < as.toArray.size := by
      have := (List.getElem?_eq_some_iff.mp hu).1
      simpa using this
    have lb : i < bs.toArray.size := by
      have := (List.getElem?_eq_some_iff.mp hv).1
      simpa using this
    refine wpAny_pyNext_zipD2_item (apart_sep D) (Draws.tuple hh i1 a D.l1i1 as.toArray) (Draws.list hh i2 b D.l2i2 bs.toArray) s1 s2 s3 ⟨s4, pa⟩ ⟨s5, pb.isList⟩ la lb fun u' v' g tk e1 e2 n1 n2 n3 n4 n5 n6 n7 => ?_
    have eu : u' = u := by
      have : some u' = some u := by rw [← e1]; simpa using hu
      injection this
    have ev : v' = v := by
      have : some v' = some v := by rw [← e2]; simpa using hv
      injection this
    subst eu ev
    refine ⟨_, rfl, wpAny_letOwnedTupleGo_zip (s := { s with heap := g, toks := tk }) n1 fun g' zz sb => ?_⟩
    have pair : g'.get? s.heap.objs.size = some { cls := .type "tuple", data := .seq #[u', v'] } := (sb.2 _ (Nat.ne_of_gt zl)).trans n5
    have ob : ObjOk X.prog X.w (upd H s.heap.objs.size (.tup [x, y])) g' s.heap.objs.size (.tup [x, y]) := ⟨show 2 ≤ sizeLine by decide, [u', v'], .cons ru (.cons rv .nil), _, pair, rfl, _, rfl⟩
    have far : ∀ c o, c ∉ [z, TI, TO, i1, i2] → s.heap.get? c = some o → g'.get? c = some o := fun c o hb e => by
      simp only [List.mem_cons, List.not_mem_nil, or_false, not_or] at hb
      obtain ⟨b1, _, b3, b4, b5⟩ := hb
      exact (sb.2 c b1).trans (n7 c o b1 b3 b4 b5 e)
    have J : Inv X pins σ (upd H s.heap.objs.size (.tup [x, y])) { s with heap := g', toks := tk } := I.turnedNew (t' := tk) (ch := [z, TI, TO, i1, i2]) far hf (Nat.le_refl _) ob
    have yy : (ItzM X.K a b).yld i H (.ref s.heap.objs.size) (upd H s.heap.objs.size (.tup [x, y])) :=
      ⟨_, x, y, rfl, I.hok.fresh (Nat.le_refl _), rfl, fun l hl => I.tuple_inj hl qx ▸ gx, fun l hl => I.list_inj hl qy ▸ gy⟩
    have new : StM z TI TO i1 i2 a b (i + 1) g' := by
      refine ⟨zz, ?_, ⟨u', v', ?_⟩, n3.1.at fun o e => (sb.2 _ D.i1z).trans e, n4.1.at fun o e => (sb.2 _ D.i2z).trans e⟩
      · exact (sb.2 _ D.TIz).trans (n7 _ _ D.TIz D.TITO D.TIi1 D.TIi2 s2)
      · exact (sb.2 _ D.TOz).trans n2
    refine ⟨.ref s.heap.objs.size, _, J, rfl, yy, new, fun c hm => ?_⟩
    have lt : c < s.heap.objs.size := by
      obtain ⟨o4, g4, _⟩ := s4
      obtain ⟨o5, g5, _⟩ := s5
      exact in5 (p := fun c => c < s.heap.objs.size) hm zl (Heap.lt_size s2) (Heap.lt_size s3) (Heap.lt_size g4) (Heap.lt_size g5)
    rw [upd_ne (Nat.ne_of_lt lt)]
    exact (hf c hm).1
  done := by
    intro X eP eW eK hc i pins s σ H E I hf st hg
    subst eP eW eK
    obtain ⟨s1, s2, ⟨p0, q0, s3⟩, s4, s5⟩ := st
    obtain ⟨xs, ys, qx, qy, he⟩ := hg
    obtain ⟨as, ra, pa, _⟩ := I.tuple qx
    obtain ⟨bs, rb, pb, _⟩ := I.list qy
    have na := ra.length
    have nb := rb.length
    have hh : X.A.in1.handled = none := I.ok.hd hc
    have far : ∀ (g : Heap) (tk : _), (∀ c o, c ≠ z → c ≠ TO → c ≠ i1 → c ≠ i2 → s.heap.get? c = some o → g.get? c = some o) → ((none : Option Value) = none ∧ Inv X pins σ H { s with heap := g, toks := tk }) := fun g tk k => by
      refine ⟨rfl, I.turnedL (t' := tk) (ch := [z, TI, TO, i1, i2]) (fun c o hb e => ?_) hf⟩
      simp only [List.mem_cons, List.not_mem_nil, or_false, not_or] at hb
      obtain ⟨b1, _, b3, b4, b5⟩ := hb
      exact k c o b1 b3 b4 b5 e
    by_cases c1 : as.length ≤ i
    · have o1 : as.toArray[i]? = none := by simp; omega
      by_cases c2 : bs.length ≤ i
      · have o2 : bs.toArray[i]? = none := by simp; omega
        exact wpAny_pyNext_zipD2_end (apart_sep D) (out_tuple hh o1) (out_list hh o2) s1 s2 s3 ⟨rfl, s4, pa⟩ ⟨rfl, s5, pb.isList⟩ (Nat.le_refl _) (Nat.le_refl _) (.inl rfl) far
      · exact wpAny_pyNext_zipD2_end (apart_sep D) (out_tuple hh o1) (Draws.list hh i2 b D.l2i2 bs.toArray) s1 s2 s3 ⟨rfl, s4, pa⟩ ⟨s5, pb.isList⟩ (Nat.le_refl _) (by simp; omega) (.inl rfl) far
    · have o2 : bs.toArray[i]? = none := by
        simp
        rcases he with q | q <;> omega
      exact wpAny_pyNext_zipD2_end (apart_sep D) (Draws.tuple hh i1 a D.l1i1 as.toArray) (out_list hh o2) s1 s2 s3 ⟨s4, pa⟩ ⟨rfl, s5, pb.isList⟩ (by simp; omega) (Nat.le_refl _) (.inr rfl) far
  self := fun A i s Q E st h => wpAny_pyIter_zip st.1 h
/-- zip of two lists, two tuples, or a tuple and a list -/
def iZipB (K : PySem.W.Frag) (ta : TA) : TI := fun σ H R => ta σ H fun vs H1 => ∃ a b xs ys, vs = [.ref a, .ref b] ∧ ((SqL K H1 a xs ∧ SqL K H1 b ys ∧ R (Itz K a b) H1) ∨ (SqT K H1 a xs ∧ SqT K H1 b ys ∧ R (RZ.ItzT K a b) H1) ∨ (SqT K H1 a xs ∧ SqL K H1 b ys ∧ R (ItzM K a b) H1))
theorem five {n c : Nat} (h : c ∈ [n + 4, n + 2, n + 3, n, n + 1]) : n ≤ c := by
  simp only [List.mem_cons, List.not_mem_nil, or_false] at h
  omega
theorem pi_zipB {X : Cx} {e e2 : Expr} {ta : TA} {p pos tp : Pos} {elts : List Expr} {kk : Nat} (hg : Gl X "zip") (hm : X.mg "zip" = none) (ha : PA X [e, e2] ta)
    (hs : starEach [e, e2] X.env = (false, eval e X.env) :: starEach [e2] X.env) (hpl : (backTo pos (starEach [e2] X.env)).any (·.1) = false) :
    PI X (.Tuple elts kk tp) (.Call (.Name "zip" p) [e, e2] [] pos) (iZipB X.K ta) where
  run pins s σ H R I h := by
    refine Call_ (ld_blt I hg hm PyProof.Rows.boot_zip (PyProof.Rows.callWith_type1 (thn (ha.run pos pins s σ H _ I h) fun us t ⟨vs, G, J, rs, q⟩ => ?_) hs hpl))
    obtain ⟨a, b, xs, ys, rfl, q⟩ := q
    obtain ⟨u1, u2, rfl, r1, r2⟩ : ∃ u1 u2, us = [u1, u2] ∧ RelV (.ref a) u1 ∧ RelV (.ref b) u2 := by
      cases rs with
      | cons r rr => cases rr with
        | cons r' rr => cases rr; exact ⟨_, _, rfl, r, r'⟩
    cases r1
    cases r2
    have new : ∀ c, c ∈ [t.heap.objs.size + 4, t.heap.objs.size + 2, t.heap.objs.size + 3, t.heap.objs.size, t.heap.objs.size + 1] → FpOk X pins G c := fun c hc => J.fpOk (five hc) (J.hok.fresh (five hc))
    rcases q with ⟨qx, qy, q⟩ | ⟨qx, qy, q⟩ | ⟨qx, qy, q⟩
    · obtain ⟨as, ra, pa, _⟩ := J.list qx
      obtain ⟨bs, rb, pb, _⟩ := J.list qy
      refine call_zip_2 pa.isList pb.isList fun g n1 n2 n3 n4 n5 n6 n7 => wpAny_pyIter_zip n1 ?_
      exact ⟨_, _, _, _, G, rfl, J.kept (t' := t.toks) n7, turn_zip (PySem.W.ktu_apart t.heap.objs.size a b pa.lt pb.lt), ⟨n1, n2, ⟨_, _, n3⟩, n4, n5⟩, new, q⟩
    · obtain ⟨as, ra, pa, _⟩ := J.tuple qx
      obtain ⟨bs, rb, pb, _⟩ := J.tuple qy
      have la := pa
      have lb := pb
      obtain ⟨_, ga, _⟩ := la
      obtain ⟨_, gb, _⟩ := lb
      refine RZ.call_zipT (show t.heap.IsTuple a as.toArray from pa) (show t.heap.IsTuple b bs.toArray from pb) fun g n1 n2 n3 n4 n5 n6 n7 => wpAny_pyIter_zip n1 ?_
      exact ⟨_, _, _, _, G, rfl, J.kept (t' := t.toks) n7, RZ.turn_zipT (PySem.W.ktu_apart t.heap.objs.size a b (Heap.lt_size ga) (Heap.lt_size gb)), ⟨n1, n2, ⟨_, _, n3⟩, n4, n5⟩, new, q⟩
    · obtain ⟨as, ra, pa, _⟩ := J.tuple qx
      obtain ⟨bs, rb, pb, _⟩ := J.list qy
      have la := pa
      obtain ⟨_, ga, _⟩ := la
      refine zip_begins2 (begins_tuple a as.toArray) (begins_list b bs.toArray) pa pb.isList fun g n1 n2 n3 n4 n5 n6 n7 => wpAny_pyIter_zip n1 ?_
      exact ⟨_, _, _, _, G, rfl, J.kept (t' := t.toks) n7, turn_mix (PySem.W.ktu_apart t.heap.objs.size a b (Heap.lt_size ga) pb.lt), ⟨n1, n2, ⟨_, _, n3⟩, ⟨_, n4, rfl, rfl⟩, ⟨_, n5, rfl, rfl⟩⟩, new, q⟩
end Zi
set_option maxHeartbeats 4000000
/-! Z5g: range, enumerate, zip, values, items. -/
namespace Zi
open PySem PySem.Spec PyProof.Rows L2
theorem it_rng {Γ : Gl0} {base : Nat} {ι : List Addr} {F : Hp} (lo : Int) (n : Nat) (ds : List D) (hd : ds = (List.range n).map fun (k : Nat) => D.int (lo + k)) : ItSp Γ base ι F (Itr lo n) ds [] := by
  intro i bs G ι' F' m' H' ee R' sm
  subst hd
  rw [List.length_map, List.length_range]
  refine ⟨fun hi => ⟨hi, fun x' H2 ⟨q1, q2⟩ => ?_⟩, fun hi => hi⟩
  subst q1 q2
  exact ⟨F', .int (lo + i), Ext.refl _ _, R', by rw [List.getElem?_map, List.getElem?_range hi]; rfl, rfl⟩
theorem enumD_len : ∀ (ds : List D) (n : Nat), (enumD n ds).length = ds.length
  | [], _ => rfl
  | d :: r, n => by show (enumD (n + 1) r).length + 1 = _; rw [enumD_len r]; rfl
theorem enumD_get : ∀ (ds : List D) (n i : Nat) (d : D), ds[i]? = some d → (enumD n ds)[i]? = some (.tup [.int ((n + i : Nat) : Int), d])
  | [], _, _, _, h => by simp at h
  | e :: r, n, 0, d, h => by
    simp at h; subst h; rfl
  | e :: r, n, i + 1, d, h => by
    have := enumD_get r (n + 1) i d (by simpa using h)
    show (enumD (n + 1) r)[i]? = _
    rw [this, show n + 1 + i = n + (i + 1) by omega]
theorem zipD_len : ∀ (as bs : List D), (zipD as bs).length = min as.length bs.length
  | [], _ => by simp [zipD]
  | _ :: _, [] => by simp [zipD]
  | a :: as, b :: bs => by
    show (zipD as bs).length + 1 = _
    rw [zipD_len as bs, List.length_cons, List.length_cons]; omega
theorem zipD_get : ∀ (as bs : List D) (i : Nat) (a b : D), as[i]? = some a → bs[i]? = some b → (zipD as bs)[i]? = some (.tup [a, b])
  | [], _, _, _, _, h, _ => by simp at h
  | _ :: _, [], _, _, _, _, h => by simp at h
  | x :: as, y :: bs, 0, a, b, h1, h2 => by
    simp at h1 h2; subst h1 h2; rfl
  | x :: as, y :: bs, i + 1, a, b, h1, h2 => zipD_get as bs i a b (by simpa using h1) (by simpa using h2)
section
variable {X : Cx} {Γ : Gl0} {base : Nat} {tg : Expr} {W : WX} {p pos tpos : Pos} {e e2 : Expr} {f f2 : Ev → MH → R D}
theorem tCons1 {σ : L2.St} {H : Hp} {Q : List V → Hp → Prop} {te : TE} (h : te σ H fun x H1 => Q [x] H1) : tCons te tNil σ H Q := h
theorem pi_rng1Z (hg : Gl X "range") (hm : X.mg "range" = none) (he : PE X e (tE Γ base W f)) (hs : starEach [e] X.env = [(false, eval e X.env)]) (hs2 : starEach [e] X.env = (false, eval e X.env) :: starEach [] X.env) :
    PI X tg (.Call (.Name "range" p) [e] [] pos) (tI Γ base W fun ρ m => (f ρ m).bind fun x m => (ofO (rngD [x]) m).bind fun ds m => .ok (ds, []) m) := by
  refine PI.imp (pi_range1 hg hm (pa_cons he pa_nil hs2) hs) fun σ H Rq ⟨bs, G, ι, F, ρ, m, sr, hr, h⟩ => ?_
  refine ⟨bs, G, ι, F, ρ, m, sr, hr, (Pst.bind h).imp fun x H1 ⟨ι1, F1, d, m1, e1, hr1, dx, h1⟩ => ?_⟩
  obtain ⟨ds, e2, h2⟩ := Pst.ofO h1
  unfold rngD at e2
  split at e2
  · rename_i n q
    cases q
    split at e2
    · rename_i c
      cases e2
      cases dx
      exact ⟨n, rfl, by have := natB_ok.mp c; omega, by have := natB_ok.mp c; omega, h2 _ ι1 F1 H1 (Ext.refl _ _) hr1 (it_rng 0 n.toNat _ (List.map_congr_left fun k _ => by rw [Int.zero_add]))⟩
    · cases e2
  · rename_i q; cases q
  · cases e2
theorem pi_rng2Z (hg : Gl X "range") (hm : X.mg "range" = none) (he : PE X e (tE Γ base W f)) (he2 : PE X e2 (tE Γ base W f2)) (hs : starEach [e, e2] X.env = [(false, eval e X.env), (false, eval e2 X.env)]) (hs1 : starEach [e, e2] X.env = (false, eval e X.env) :: starEach [e2] X.env) (hs2 : starEach [e2] X.env = (false, eval e2 X.env) :: starEach [] X.env) :
    PI X tg (.Call (.Name "range" p) [e, e2] [] pos) (tI Γ base W fun ρ m => (f ρ m).bind fun x m => (f2 ρ m).bind fun y m => (ofO (rngD [x, y]) m).bind fun ds m => .ok (ds, []) m) := by
  refine PI.imp (pi_range2 hg hm (pa_cons he (pa_cons he2 pa_nil hs2) hs1) hs (by rw [hs2]; rfl)) fun σ H Rq ⟨bs, G, ι, F, ρ, m, sr, hr, h⟩ => ?_
  refine ⟨bs, G, ι, F, ρ, m, sr, hr, (Pst.bind h).imp fun x H1 ⟨ι1, F1, d, m1, e1, hr1, dx, h1⟩ => ?_⟩
  refine ⟨bs, G, ι1, F1, ρ, m1, sr.mono e1, hr1, (Pst.bind h1).imp fun y H2 ⟨ι2, F2, d2, m2, e2', hr2, dy, h2⟩ => ?_⟩
  obtain ⟨ds, e3, h3⟩ := Pst.ofO h2
  unfold rngD at e3
  split at e3
  · rename_i q; cases q
  · rename_i a n q
    cases q
    split at e3
    · rename_i c
      cases e3
      cases dx.mono e2'
      cases dy
      exact ⟨a, n, rfl, by have := natB_ok.mp c.1; have := natB_ok.mp c.2; omega, h3 _ ι2 F2 H2 (Ext.refl _ _) hr2 (it_rng a (n - a).toNat _ rfl)⟩
    · cases e3
  · cases e3
theorem pi_enuZ (g : Gx Γ X) (hg : Gl X "enumerate") (hm : X.mg "enumerate" = none) {elts : List Expr} {kk : Nat} (he : PE X e (tE Γ base W f)) (hs : starEach [e] X.env = [(false, eval e X.env)]) (hs2 : starEach [e] X.env = (false, eval e X.env) :: starEach [] X.env) :
    PI X (.Tuple elts kk tpos) (.Call (.Name "enumerate" p) [e] [] pos) (tI Γ base W fun ρ m => (f ρ m).bind fun x m => (ofO (getL m x) m).bind fun ds m => .ok (enumD 0 ds, lockOf m x) m) := by
  refine PI.imp (pi_enum hg hm (pa_cons he pa_nil hs2) hs) fun σ H Rq ⟨bs, G, ι, F, ρ, m, sr, hr, h⟩ => ?_
  refine ⟨bs, G, ι, F, ρ, m, sr, hr, (Pst.bind h).imp fun x H1 ⟨ι1, F1, d, m1, e1, hr1, dx, h1⟩ => ?_⟩
  obtain ⟨ds, e2, h2⟩ := Pst.ofO h1
  obtain ⟨a, rfl, ⟨xs, k⟩, st⟩ := list_still hr1 e2 dx
  refine ⟨a, xs, rfl, by rw [← g.K]; exact k, h2 _ ι1 F1 H1 (Ext.refl _ _) hr1 fun i bs G ι' F' m' H' ee R' sm => ?_⟩
  obtain ⟨vs, k1, dn⟩ := st bs G ι' F' m' H' ee R' sm
  rw [g.K] at k1
  rw [enumD_len]
  refine ⟨fun hi => ?_, fun hi => ⟨vs, k1, by rw [← dn.length]; exact hi⟩⟩
  have e4 : ds[i]? = some ds[i] := List.getElem?_eq_getElem hi
  obtain ⟨y, e5, e6⟩ := dn.get e4
  refine ⟨⟨vs, y, k1, e5⟩, fun x' H2 ⟨T, x2, q1, q2, q3, q4⟩ => ?_⟩
  have e7 := q4 vs k1
  rw [e5] at e7; cases e7
  subst q1 q3
  have ex : Ext ι' F' ι' (upd F' T (.tup [.int (i : Nat), y])) := Ext.alloc q2 R'.f
  exact ⟨_, _, ex, R'.frozen q2, enumD_get ds 0 i ds[i] e4, ⟨T, _, rfl, .of upd_same, .cons (by rw [Nat.zero_add]; rfl) (.one (e6.mono ex))⟩⟩
theorem pi_zipZ (g : Gx Γ X) (hg : Gl X "zip") (hm : X.mg "zip" = none) {elts : List Expr} {kk : Nat} (he : PE X e (tE Γ base W f)) (he2 : PE X e2 (tE Γ base W f2)) (hs1 : starEach [e, e2] X.env = (false, eval e X.env) :: starEach [e2] X.env) (hs2 : starEach [e2] X.env = (false, eval e2 X.env) :: starEach [] X.env) (hpl : (backTo pos (starEach [e2] X.env)).any (·.1) = false) :
    PI X (.Tuple elts kk tpos) (.Call (.Name "zip" p) [e, e2] [] pos) (tI Γ base W fun ρ m => (f ρ m).bind fun x m => (f2 ρ m).bind fun y m => (ofO (zip2D m x y) m).bind fun ds m => .ok (ds, lockOf m x ++ lockOf m y) m) := by
  refine PI.imp (pi_zipB hg hm (pa_cons he (pa_cons he2 pa_nil hs2) hs1) hs1 hpl) fun σ H Rq ⟨bs, G, ι, F, ρ, m, sr, hr, h⟩ => ?_
  refine ⟨bs, G, ι, F, ρ, m, sr, hr, (Pst.bind h).imp fun x H1 ⟨ι1, F1, d, m1, e1, hr1, dx, h1⟩ => ?_⟩
  refine ⟨bs, G, ι1, F1, ρ, m1, sr.mono e1, hr1, (Pst.bind h1).imp fun y H2 ⟨ι2, F2, d2, m2, e2', hr2, dy, h2⟩ => ?_⟩
  obtain ⟨ds, e3, h3⟩ := Pst.ofO h2
  have dx2 := dx.mono e2'
  unfold zip2D at e3
  split at e3
  · rename_i as _
    split at e3
    · rename List D => cs
      cases e3
      obtain ⟨a, vs, rfl, k, dn⟩ := dx2
      obtain ⟨b, us, rfl, k', dn'⟩ := dy
      refine ⟨a, b, vs, us, rfl, .inr (.inl ⟨by rw [← g.K]; exact hr2.f.seqT k, by rw [← g.K]; exact hr2.f.seqT k', h3 _ ι2 F2 H2 (Ext.refl _ _) hr2 fun i bs G ι' F' m' H' ee R' sm => ?_⟩)⟩
      have k1 := R'.f.seqT (ee.sub.seqT k)
      have k2 := R'.f.seqT (ee.sub.seqT k')
      have n1 := dn.mono ee
      have n2 := dn'.mono ee
      rw [g.K] at k1 k2
      rw [zipD_len]
      refine ⟨fun hi => ?_, fun hi => ⟨vs, us, k1, k2, ?_⟩⟩
      · have i1 : i < as.length := by omega
        have i2 : i < cs.length := by omega
        obtain ⟨y1, f1, f2⟩ := n1.get (List.getElem?_eq_getElem i1)
        obtain ⟨y2, f3, f4⟩ := n2.get (List.getElem?_eq_getElem i2)
        refine ⟨⟨vs, us, y1, y2, k1, k2, f1, f3⟩, fun x' H2 ⟨T, x1, x2, q1, q2, q3, q4, q5⟩ => ?_⟩
        have e7 := q4 vs k1
        have e8 := q5 us k2
        rw [f1] at e7; cases e7
        rw [f3] at e8; cases e8
        subst q1 q3
        have ex : Ext ι' F' ι' (upd F' T (.tup [y1, y2])) := Ext.alloc q2 R'.f
        exact ⟨_, _, ex, R'.frozen q2, zipD_get as cs i _ _ (List.getElem?_eq_getElem i1) (List.getElem?_eq_getElem i2), ⟨T, _, rfl, .of upd_same, .cons (f2.mono ex) (.one (f4.mono ex))⟩⟩
      · rw [← n1.length, ← n2.length]; omega
    · split at e3
      · rename_i cs h5
        cases e3
        obtain ⟨a, vs, rfl, k, dn⟩ := dx2
        obtain ⟨b, rfl, ⟨ys, k'⟩, st'⟩ := list_still hr2 h5 dy
        refine ⟨a, b, vs, ys, rfl, .inr (.inr ⟨by rw [← g.K]; exact hr2.f.seqT k, by rw [← g.K]; exact k', h3 _ ι2 F2 H2 (Ext.refl _ _) hr2 fun i bs G ι' F' m' H' ee R' sm => ?_⟩)⟩
        have k1 := R'.f.seqT (ee.sub.seqT k)
        have n1 := dn.mono ee
        obtain ⟨us, k2, n2⟩ := st' bs G ι' F' m' H' ee R' sm
        rw [g.K] at k1 k2
        rw [zipD_len]
        refine ⟨fun hi => ?_, fun hi => ⟨vs, us, k1, k2, ?_⟩⟩
        · have i1 : i < as.length := by omega
          have i2 : i < cs.length := by omega
          obtain ⟨y1, f1, f2⟩ := n1.get (List.getElem?_eq_getElem i1)
          obtain ⟨y2, f3, f4⟩ := n2.get (List.getElem?_eq_getElem i2)
          refine ⟨⟨vs, us, y1, y2, k1, k2, f1, f3⟩, fun x' H2 ⟨T, x1, x2, q1, q2, q3, q4, q5⟩ => ?_⟩
          have e7 := q4 vs k1
          have e8 := q5 us k2
          rw [f1] at e7; cases e7
          rw [f3] at e8; cases e8
          subst q1 q3
          have ex : Ext ι' F' ι' (upd F' T (.tup [y1, y2])) := Ext.alloc q2 R'.f
          exact ⟨_, _, ex, R'.frozen q2, zipD_get as cs i _ _ (List.getElem?_eq_getElem i1) (List.getElem?_eq_getElem i2), ⟨T, _, rfl, .of upd_same, .cons (f2.mono ex) (.one (f4.mono ex))⟩⟩
        · rw [← n1.length, ← n2.length]; omega
      · cases e3
  · split at e3
    · rename_i as cs h4 h5
      cases e3
      obtain ⟨a, rfl, ⟨xs, k⟩, st⟩ := list_still hr2 h4 dx2
      obtain ⟨b, rfl, ⟨ys, k'⟩, st'⟩ := list_still hr2 h5 dy
      refine ⟨a, b, xs, ys, rfl, .inl ⟨by rw [← g.K]; exact k, by rw [← g.K]; exact k', h3 _ ι2 F2 H2 (Ext.refl _ _) hr2 fun i bs G ι' F' m' H' ee R' sm => ?_⟩⟩
      have sm' : sameB (lockOf m2 d ++ lockOf m2 d2) m' = true := sm
      have sm1 : sameB (lockOf m2 d) m' = true := by unfold sameB at sm' ⊢; rw [List.all_append, Bool.and_eq_true] at sm'; exact sm'.1
      have sm2 : sameB (lockOf m2 d2) m' = true := by unfold sameB at sm' ⊢; rw [List.all_append, Bool.and_eq_true] at sm'; exact sm'.2
      obtain ⟨vs, k1, n1⟩ := st bs G ι' F' m' H' ee R' sm1
      obtain ⟨us, k2, n2⟩ := st' bs G ι' F' m' H' ee R' sm2
      rw [g.K] at k1 k2
      rw [zipD_len]
      refine ⟨fun hi => ?_, fun hi => ⟨vs, us, k1, k2, ?_⟩⟩
      · have i1 : i < as.length := by omega
        have i2 : i < cs.length := by omega
        obtain ⟨y1, f1, f2⟩ := n1.get (List.getElem?_eq_getElem i1)
        obtain ⟨y2, f3, f4⟩ := n2.get (List.getElem?_eq_getElem i2)
        refine ⟨⟨vs, us, y1, y2, k1, k2, f1, f3⟩, fun x' H2 ⟨T, x1, x2, q1, q2, q3, q4, q5⟩ => ?_⟩
        have e7 := q4 vs k1
        have e8 := q5 us k2
        rw [f1] at e7; cases e7
        rw [f3] at e8; cases e8
        subst q1 q3
        have ex : Ext ι' F' ι' (upd F' T (.tup [y1, y2])) := Ext.alloc q2 R'.f
        exact ⟨_, _, ex, R'.frozen q2, zipD_get as cs i _ _ (List.getElem?_eq_getElem i1) (List.getElem?_eq_getElem i2), ⟨T, _, rfl, .of upd_same, .cons (f2.mono ex) (.one (f4.mono ex))⟩⟩
      · rw [← n1.length, ← n2.length]; omega
    · cases e3
theorem DenK.at {ι : List Addr} {F : Hp} : ∀ {kvs : List (D × D)} {es : List (Key × V)} {i : Nat} {p : D × D}, DenK Γ ι F kvs es → kvs[i]? = some p → ∃ k v, es[i]? = some (k, v) ∧ p.1 = kD k ∧ Den Γ ι F p.2 v
  | [], _, _, _, _, h => by simp at h
  | (a, b) :: r, _, 0, p, ⟨k, v, es', h1, h2, h3, h4⟩, h => by
    simp at h; subst h
    exact ⟨k, v, by rw [h1]; rfl, h2, h3⟩
  | (a, b) :: r, _, i + 1, p, ⟨k, v, es', h1, h2, h3, h4⟩, h => by
    obtain ⟨k', v', e1, e2, e3⟩ := DenK.at (i := i) h4 (by simpa using h)
    exact ⟨k', v', by rw [h1]; simpa using e1, e2, e3⟩
theorem pi_valZ {apos cpos : Pos} (g : Gx Γ X) (he : PE X e (tE Γ base W f)) (hbase : attributeBase e "values" X.env (eval e X.env) = eval e X.env) (hline : (apos.endLine == cpos.line) = true) :
    PI X tg (.Call (.Attribute e "values" apos) [] [] cpos) (tI Γ base W fun ρ m => (f ρ m).bind fun x m => match x with
      | .dct false kvs => .ok (kvs.map (·.2), []) m
      | _ => .bad) := by
  refine PI.imp (pi_values he hbase hline) fun σ H Rq ⟨bs, G, ι, F, ρ, m, sr, hr, h⟩ => ?_
  refine ⟨bs, G, ι, F, ρ, m, sr, hr, (Pst.bind h).imp fun x H1 ⟨ι1, F1, d, m1, e1, hr1, dx, h1⟩ => ?_⟩
  split at h1
  · rename_i kvs
    obtain ⟨a, h3⟩ := dx
    obtain ⟨rfl, ⟨_, o, es, q, z⟩ | ⟨y, _⟩⟩ := h3
    · refine ⟨a, o, es, rfl, hr1.f _ _ q, h1 _ ι1 F1 H1 (Ext.refl _ _) hr1 fun i bs G ι' F' m' H' ee R' sm => ?_⟩
      have hH := R'.f _ _ (ee.sub _ _ q)
      have z' := DenK.mono ee kvs es z
      rw [List.length_map]
      refine ⟨fun hi => ⟨⟨hH, by rw [← z.length]; exact hi⟩, fun x' H2 ⟨q1, k, q2⟩ => ?_⟩, fun hi => ⟨hH, by rw [← z.length]; exact hi⟩⟩
      subst q1
      obtain ⟨k', v', f1, f2, f3⟩ := z'.at (List.getElem?_eq_getElem hi)
      rw [q2] at f1; cases f1
      exact ⟨F', _, Ext.refl _ _, R', by rw [List.getElem?_map, List.getElem?_eq_getElem hi]; rfl, f3⟩
    · cases y
  · exact (Pst.bad h1).elim
theorem pi_itmZ {apos cpos : Pos} {elts : List Expr} {kk : Nat} (g : Gx Γ X) (he : PE X e (tE Γ base W f)) (hbase : attributeBase e "items" X.env (eval e X.env) = eval e X.env) (hline : (apos.endLine == cpos.line) = true) :
    PI X (.Tuple elts kk tpos) (.Call (.Attribute e "items" apos) [] [] cpos) (tI Γ base W fun ρ m => (f ρ m).bind fun x m => match x with
      | .dct false kvs => .ok (kvs.map (fun p => .tup [p.1, p.2]), []) m
      | _ => .bad) := by
  refine PI.imp (pi_items he hbase hline) fun σ H Rq ⟨bs, G, ι, F, ρ, m, sr, hr, h⟩ => ?_
  refine ⟨bs, G, ι, F, ρ, m, sr, hr, (Pst.bind h).imp fun x H1 ⟨ι1, F1, d, m1, e1, hr1, dx, h1⟩ => ?_⟩
  split at h1
  · rename_i kvs
    obtain ⟨a, h3⟩ := dx
    obtain ⟨rfl, ⟨_, o, es, q, z⟩ | ⟨y, _⟩⟩ := h3
    · refine ⟨a, o, es, rfl, hr1.f _ _ q, h1 _ ι1 F1 H1 (Ext.refl _ _) hr1 fun i bs G ι' F' m' H' ee R' sm => ?_⟩
      have hH := R'.f _ _ (ee.sub _ _ q)
      have z' := DenK.mono ee kvs es z
      rw [List.length_map]
      refine ⟨fun hi => ⟨⟨hH, by rw [← z.length]; exact hi⟩, fun x' H2 ⟨T, k, v, q1, q2, q3, q4⟩ => ?_⟩, fun hi => ⟨hH, by rw [← z.length]; exact hi⟩⟩
      subst q2 q4
      obtain ⟨k', v', f1, f2, f3⟩ := z'.at (List.getElem?_eq_getElem hi)
      rw [q1] at f1; cases f1
      have ex : Ext ι' F' ι' (upd F' T (.tup [kV k, v])) := Ext.alloc q3 R'.f
      refine ⟨_, .tup [kvs[i].1, kvs[i].2], ex, R'.frozen q3, by rw [List.getElem?_map, List.getElem?_eq_getElem hi]; rfl, ⟨T, _, rfl, .of upd_same, .cons ?_ (.one (f3.mono ex))⟩⟩
      rw [f2]
      cases k <;> rfl
    · cases y
  · exact (Pst.bad h1).elim
end
end Zi
set_option maxHeartbeats 4000000
/-! Z6: what is known of the program; calls. -/
namespace Zi
open PySem PySem.Spec PyProof.Rows L2

/-! ### frames -/
section
variable {Γ : Gl0} {base : Nat} {bs : List Nat} {G : Hp} {ι ι1 : List Addr} {F F1 : Hp} {m m1 : MH} {H H1 : Hp}
theorem obBelow_of {a : Addr} : ∀ {o : Ob} {ho : HO}, ObDen Γ ι F a o ho → obBelow ι.length o = true
  | .lst ds, _, ⟨vs, _, h⟩ => h.below
  | .dct _ kvs, _, h => h.elim (fun ⟨_, es, _, z⟩ => z.below) fun ⟨_, es, _, z⟩ => z.below
  | .ins c fs, _, ⟨_, vs, _, h⟩ => h.below
theorem HR.enter (R : HR Γ base bs G ι F m H) : HR Γ m.length (m.length :: bs) G ι F m H where
  g := R.g
  f := R.f
  fg := R.fg
  len := R.len
  live := R.live
  uniq := R.uniq
  top := ⟨List.mem_cons_self, fun b hb => by
    rcases List.mem_cons.mp hb with rfl | hb
    · exact ⟨Nat.le_refl _, Nat.le_refl _⟩
    · exact ⟨(R.top.2 b hb).2, (R.top.2 b hb).2⟩⟩
  bel := fun b hb i o hi h => by
    rcases List.mem_cons.mp hb with rfl | hb
    · obtain ⟨a, ho, h1, h2, h3, h4, h5⟩ := R.at h
      rw [← R.len]; exact obBelow_of h5
    · exact R.bel b hb i o hi h
theorem HR.back {b0 : Nat} (R : HR Γ base bs G ι F m H) (R1 : HR Γ b0 (b0 :: bs) G ι1 F1 m1 H1) : HR Γ base bs G ι1 F1 m1 H1 where
  g := R1.g
  f := R1.f
  fg := R1.fg
  len := R1.len
  live := R1.live
  uniq := R1.uniq
  top := ⟨R.top.1, fun b hb => ⟨(R.top.2 b hb).1, (R1.top.2 b (List.mem_cons_of_mem _ hb)).2⟩⟩
  bel := fun b hb => R1.bel b (List.mem_cons_of_mem _ hb)
theorem ObDen.cut {n : Nat} (hn : n ≤ ι.length) {a : Addr} : ∀ {o : Ob} {ho : HO}, obBelow n o = true → ObDen Γ ι F a o ho → ObDen Γ (ι.take n) F a o ho
  | .lst ds, _, b, ⟨vs, h1, h⟩ => ⟨vs, h1, h.cut hn _ _ b⟩
  | .dct _ kvs, _, b, h => h.imp (fun ⟨y, es, q, z⟩ => ⟨y, es, q, z.cut hn _ _ b⟩) fun ⟨y, es, q, z⟩ => ⟨y, es, q, z.cut hn _ _ b⟩
  | .ins c fs, _, b, ⟨dx, vs, h1, h⟩ => ⟨dx, vs, h1, h.cut hn _ _ b⟩
theorem HR.cut (R : HR Γ base bs G ι F m H) (R1 : HR Γ m.length (m.length :: bs) G ι1 F1 m1 H1) (hl : m.length ≤ m1.length) : HR Γ base bs G (ι1.take m.length) F1 (m1.take m.length) H1 where
  g := R1.g
  f := R1.f
  fg := R1.fg
  len := by rw [List.length_take, List.length_take, R1.len]
  live := fun i a o h1 h2 => by
    have hi : i < m.length := by
      by_cases c : i < m.length
      · exact c
      · rw [List.getElem?_take_eq_none (by omega)] at h2; cases h2
    rw [List.getElem?_take_of_lt hi] at h1 h2
    obtain ⟨k1, k2, ho, k3, k4⟩ := R1.live i a o h1 h2
    exact ⟨k1, k2, ho, k3, k4.cut (by rw [R1.len]; exact hl) (R1.bel _ List.mem_cons_self i o hi h2)⟩
  uniq := fun i j a o u h1 h2 h3 h4 => by
    have lt : ∀ {k : Nat} {z : Ob}, (m1.take m.length)[k]? = some (some z) → k < m.length := fun {k z} q => by
      by_cases c : k < m.length
      · exact c
      · rw [List.getElem?_take_eq_none (by omega)] at q; cases q
    have hi := lt h3
    have hj := lt h4
    rw [List.getElem?_take_of_lt hi] at h1 h3
    rw [List.getElem?_take_of_lt hj] at h2 h4
    exact R1.uniq i j a o u h1 h2 h3 h4
  top := ⟨R.top.1, fun b hb => ⟨(R.top.2 b hb).1, by rw [List.length_take]; have := (R.top.2 b hb).2; omega⟩⟩
  bel := fun b hb i o hi h => by
    have c : i < m.length := by have := (R.top.2 b hb).2; omega
    rw [List.getElem?_take_of_lt c] at h
    exact R1.bel b (List.mem_cons_of_mem _ hb) i o hi h
theorem Ext.cut (R : HR Γ base bs G ι F m H) (e : Ext ι F ι1 F1) : Ext ι F (ι1.take m.length) F1 := by
  obtain ⟨t, rfl⟩ := e.pre
  refine ⟨⟨[], ?_⟩, e.sub⟩
  rw [← R.len]; simp
theorem Ext.le (R : HR Γ base bs G ι F m H) (e : Ext ι F ι1 F1) (R1 : HR Γ m.length (m.length :: bs) G ι1 F1 m1 H1) : m.length ≤ m1.length := by
  obtain ⟨t, rfl⟩ := e.pre
  rw [← R1.len, ← R.len, List.length_append]; omega
/-- what a callee must leave, from what the caller wants -/
theorem Pst.callee {Q : VK} {E : XK} {kp : Bool} {r : R D} (R : HR Γ base bs G ι F m H) (h : Pst ⟨Γ, base, bs, G⟩ (Den Γ) ι F Q E (gcR m.length kp r)) : Pst ⟨Γ, m.length, m.length :: bs, G⟩ (Den Γ) ι F Q E r := by
  cases r with
  | ok d m' =>
    intro v ι' F' H' e R1 x
    cases kp with
    | true => exact h v ι' F' H' e (R.back R1) x
    | false =>
      have h' : Pst ⟨Γ, base, bs, G⟩ (Den Γ) ι F Q E (if below m.length d then .ok d (m'.take m.length) else .bad) := h
      split at h'
      · rename_i c
        exact h' v _ F' H' (Ext.cut R e) (R.cut R1 (Ext.le R e R1)) (x.cut (by rw [R1.len]; exact Ext.le R e R1) _ _ c)
      · exact h'.elim
  | exc c fs m' =>
    intro ι' F' H' cls d e R1 x
    have h' : Pst ⟨Γ, base, bs, G⟩ (Den Γ) ι F Q E (if belowF m.length fs = true then .exc c fs (m'.take m.length) else .bad) := h
    split at h'
    · rename_i q
      exact h' _ F' H' cls d (Ext.cut R e) (R.cut R1 (Ext.le R e R1)) ⟨x.1, x.2.imp id fun ⟨dx, vs, h1, h2, h3⟩ => ⟨dx, vs, h1, h2, h3.cut (by rw [R1.len]; exact Ext.le R e R1) _ _ q⟩⟩
    · exact h'.elim
  | bad => exact h.elim
end

/-! ### fields -/
theorem beq_str {f g : String} : (f == g) = decide (f = g) := by
  by_cases h : f = g
  · subst h; simp
  · simp [h]
theorem DenF.look {Γ : Gl0} {ι : List Addr} {F : Hp} {f : String} (hf : asc f = true) : ∀ {fs : Fs} {vs : List (Str × V)}, DenF Γ ι F fs vs → (∀ d, fs.lookup f = some d → ∃ v, vs.lookup (Str.ofString f) = some v ∧ Den Γ ι F d v) ∧ (fs.lookup f = none → vs.lookup (Str.ofString f) = none)
  | [], _, h => by
    rw [show _ = [] from h]
    exact ⟨(fun _ q => nomatch q), fun _ => rfl⟩
  | (g, b) :: r, _, ⟨v, es', ⟨h1, h0⟩, h2, h3⟩ => by
    rw [h1]
    obtain ⟨i1, i2⟩ := DenF.look hf h3
    by_cases e : f = g
    · subst e
      have e1 : (f == f) = true := by simp
      have e2 : (Str.ofString f == Str.ofString f) = true := by simp
      rw [List.lookup_cons, List.lookup_cons, e1, e2]
      exact ⟨fun d q => by cases q; exact ⟨v, rfl, h2⟩, fun q => nomatch q⟩
    · have e1 : (f == g) = false := by simpa using e
      have e2 : (Str.ofString f == Str.ofString g) = false := by
        have : ¬ Str.ofString f = Str.ofString g := fun q => e (asc_inj hf h0 q)
        simpa using this
      rw [List.lookup_cons, List.lookup_cons, e1, e2]
      exact ⟨i1, i2⟩
theorem DenF.put {Γ : Gl0} {ι : List Addr} {F : Hp} {f : String} {d : D} {v : V} (hf : asc f = true) (x : Den Γ ι F d v) : ∀ {fs : Fs} {vs : List (Str × V)}, DenF Γ ι F fs vs → DenF Γ ι F (fput fs f d) (putF (Str.ofString f) v vs)
  | [], _, h => by
    rw [show _ = [] from h]
    exact ⟨v, [], ⟨rfl, hf⟩, x, rfl⟩
  | (g, b) :: r, _, ⟨u, es', ⟨h1, h0⟩, h2, h3⟩ => by
    rw [h1]
    unfold fput putF
    by_cases e : g = f
    · subst e
      rw [if_pos rfl, if_pos rfl]
      exact ⟨v, es', ⟨rfl, h0⟩, x, h3⟩
    · have e2 : ¬ Str.ofString g = Str.ofString f := fun q => e (asc_inj h0 hf q)
      rw [if_neg e, if_neg e2]
      exact ⟨u, _, ⟨rfl, h0⟩, h2, DenF.put hf x h3⟩
theorem DenF.length {Γ : Gl0} {ι : List Addr} {F : Hp} : ∀ {fs : Fs} {vs : List (Str × V)}, DenF Γ ι F fs vs → fs.length = vs.length
  | [], _, h => by rw [show _ = [] from h]; rfl
  | (g, b) :: r, _, ⟨u, es', ⟨h1, h0⟩, h2, h3⟩ => by rw [h1, List.length_cons, List.length_cons, DenF.length h3]

/-! ### the program's facts -/
def bltNames : List String := ["len", "abs", "max", "min", "sum", "all", "any", "sorted", "list", "tuple", "int", "bool", "str", "dict", "set", "range", "enumerate", "zip", "isinstance"]
/-- the type of that name -/
def tyVal (Γ : Gl0) (t : String) : Value := if tyNames.contains t then .type t else .ref (Γ.ca t)
structure ClF (K : PySem.W.Frag) (C : Addr) : Prop where
  cl : Cls K C
  ha : PySem.W.findIn K (.ref C) "__class__" = some (some (.builtin "object.__class__"))
  hn : PySem.W.specialIn K (.builtin "object.__class__") "__get__" = some (some (.builtin "getset_descriptor.__get__"))
  htk : PySem.W.takesIn K (.builtin "object.__class__") = some true
  hm : PySem.W.mroIn K C (.type "object") = some true
  sf : PySem.W.selfFirst K C = true
structure Gf (Γ : Gl0) (P : ZP) (fa : String → Addr) (mg : Str → Option Value) : Prop where
  gl : ∀ f ∈ P.gl, mg (Str.ofString f) = some (.ref (fa f)) ∧ PySem.W.keepIn Γ.K (.ref (fa f)) = true
  cls : ∀ c q, P.cls.lookup c = some q → mg (Str.ofString c) = some (.ref (Γ.ca c)) ∧ ClF Γ.K (Γ.ca c) ∧ tyNames.contains c = false
  fld : ∀ c q f, P.cls.lookup c = some q → q.flds.contains f = true → NoAttr Γ.K (Γ.ca c) (Str.ofString f)
  con : ∀ c q f d, P.cls.lookup c = some q → q.cons.lookup f = some d → ∃ v u, Con Γ.K (Γ.ca c) (Str.ofString f) v u ∧ ∀ ι F, Den Γ ι F d v
  mth : ∀ c q f g, P.cls.lookup c = some q → q.meths.lookup f = some g → Meth Γ.K (Γ.ca c) (Str.ofString f) (fa g)
  mkc : ∀ c q g, P.cls.lookup c = some q → q.meths.lookup "__init__" = some g → Mk Γ.K (Γ.ca c) (fa g)
  ini : ∀ c q g, P.cls.lookup c = some q → q.meths.lookup "__init__" = some g → P.ini.contains g = true
  blt : ∀ x ∈ bltNames, mg (Str.ofString x) = none
  gv : ∀ x d, P.gv.lookup x = some d → ∃ v u, mg (Str.ofString x) = some u ∧ RelV v u ∧ ∀ ι F, Den Γ ι F d v
  kit : ∀ t u, (tyNames.contains t = true ∨ ∃ q, P.cls.lookup t = some q) → (tyNames.contains u = true ∨ ∃ q, P.cls.lookup u = some q) → PySem.W.kitOne Γ.K (tyVal Γ t) (tyVal Γ u) = some (t == u || (t == "bool" && u == "int") || (ecOf P 0 fun _ _ _ _ => .bad).sub t u)

/-- the errors' facts -/
structure Gx1 (Γ : Gl0) (P : ZP) (mg : Str → Option Value) : Prop where
  nm : ∀ c q, P.xs.lookup c = some q → mg (Str.ofString c) = some (.ref (Γ.ca c)) ∧ PySem.W.keepIn Γ.K (.ref (Γ.ca c)) = true ∧ PySem.W.subIn Γ.K (.ref (Γ.ca c)) (.type "BaseException") = some true ∧ PySem.W.typeIn Γ.K (.ref (Γ.ca c)) = some (.type "type")
  bare : ∀ c bs, P.xs.lookup c = some (bs, []) → PySem.W.excIn Γ.K (Γ.ca c) [.type "ValueError", .type "Exception", .type "BaseException", .type "object"] "ValueError.__new__" = true
  exm : ∀ k h q r, P.xs.lookup k = some q → P.xs.lookup h = some r → PySem.W.exmOne Γ.K (.ref (Γ.ca k)) (.ref (Γ.ca h)) = some (isTy (ecOf P 0 fun _ _ _ _ => .bad).sub k [h])
/-- a def, by positional values -/
def spR (Γ : Gl0) (P : ZP) (n : Nat) (f : String) : Sp := fun vs H Q E => ∃ b bs G ι F m ds, HR Γ b (b :: bs) G ι F m H ∧ Dens Γ ι F ds vs ∧ (m.length ≤ b ∨ P.ini.contains f = true) ∧ Pst ⟨Γ, b, b :: bs, G⟩ (Den Γ) ι F Q E (callF P n b f ds m)

structure GoodX (Γ : Gl0) (P : ZP) (fa : String → Addr) (n : Nat) (N : List Str) (sc : Scope) (asg : Str → Bool) (cm : Bool) (X : Cx) : Prop where
  gx : Gx Γ X
  gf : Gf Γ P fa X.mg
  ge : Gx1 Γ P X.mg
  nm : X.N = N
  nd : N.Nodup
  dbg : ∀ x ∈ N, (x == ("__debug__" : Str)) = false ∧ (x == ("__classdict__" : Str)) = false
  scp : X.env.scope = sc
  fnc : ∀ x, asg x = true → X.fn x = true
  clm : cm = true → X.calm = true
  room : cm = true → Room (3 * n + 2) X.A
  calls : cm = true → ∀ f zf, P.funs.lookup f = some zf → FnR X.prog X.w X.K X.mg X.base (L2.CX X.prog X.w) (3 * n) (fa f) (spR Γ P n f)

/-! ### calls -/
section
variable {X : Cx} {Γ : Gl0} {P : ZP} {fa : String → Addr} {n : Nat} {N : List Str} {sc : Scope} {asg : Str → Bool}
theorem run_fnZ {k : Nat} {f : Addr} {sp : Sp} {E : XK} {Q : VK} {us : List Value} {vs : List V} {pins : List (Addr × Obj)} {σ : L2.St} {H : Hp} {s : Shared} (F : FnR X.prog X.w X.K X.mg X.base (L2.CX X.prog X.w) k f sp) (hr : Room k X.A) (hx : PassesAt (L2.CX X.prog X.w) X σ E) (I : Inv X pins σ H s) (r : Vals vs us) (h : sp vs H Q E) :
    codeAny (model X.prog X.w) X.A (.call (.ref f) ⟨us, []⟩) (fun r s' => match r with | .ok (.ret v) => EP X pins σ Q v s' | .ok _ => False | .error e => X.xe e s') s := by
  refine codeAny_mono (F X.A X.stack s H us vs Q E hr I.env0 r h) fun r s' hq => ?_
  cases r with
  | error e => exact hx pins H s e s' I hq
  | ok fl => cases fl with
    | ret v => exact I.after hq
    | _ => exact hq
/-- the model's call of a def, by values -/
theorem callZ {W : WX} {pins : List (Addr × Obj)} {σ : L2.St} {H : Hp} {s : Shared} (g : GoodX Γ P fa n N sc asg true X) (tk : Takes X W) {bs : List Nat} {G : Hp} {ι : List Addr} {F : Hp} {m : MH} {base : Nat} {Q : VK} {kp : Bool} {f : String} {ds : List D} {vs : List V} {us : List Value} (I : Inv X pins σ H s) (R : HR Γ base bs G ι F m H) (x : Dens Γ ι F ds vs) (r : Vals vs us)
    (h : Pst ⟨Γ, base, bs, G⟩ (Den Γ) ι F Q (fun cls d H' => W cls d σ H') (gcR m.length kp (callF P n m.length f ds m))) :
    codeAny (model X.prog X.w) X.A (.call (.ref (fa f)) ⟨us, []⟩) (fun r s' => match r with | .ok (.ret v) => EP X pins σ Q v s' | .ok _ => False | .error e => X.xe e s') s := by
  have h2 := Pst.callee R h
  have hz : ∃ zf, P.funs.lookup f = some zf := by
    cases n with
    | zero => exact (Pst.bad h2).elim
    | succ n =>
      unfold callF at h2
      cases e : P.funs.lookup f with
      | none => rw [e] at h2; exact (Pst.bad h2).elim
      | some zf => exact ⟨zf, rfl⟩
  obtain ⟨zf, hz⟩ := hz
  exact run_fnZ (E := WE W σ) (g.calls rfl f zf hz) ((g.room rfl).mono (by omega)) (passAt tk σ) I r ⟨m.length, bs, G, ι, F, m, ds, R.enter, x, .inl (Nat.le_refl _), h2⟩
end
end Zi
set_option maxHeartbeats 4000000
/-! Z6b: freezing. -/
namespace Zi
open PySem PySem.Spec PyProof.Rows L2
/-- what is wanted behind pinning the things at L as they stand -/
def Lks : List Addr → Hp → (Hp → Prop) → Prop
  | [], H, Q => Q H
  | a :: L, H, Q => ∃ u, H a = some u ∧ Mut (some u) ∧ ∀ od, Lks L (upd H a (.frz od u)) Q
theorem lks_run {X : Cx} {pins : List (Addr × Obj)} {σ : L2.St} {s : Shared} {Q : Hp → Prop} : ∀ (L : List Addr) (H : Hp), Inv X pins σ H s → Lks L H Q → ∃ H', Inv X pins σ H' s ∧ Q H'
  | [], H, I, q => ⟨H, I, q⟩
  | a :: L, H, I, ⟨u, h1, h2, h3⟩ => by
    obtain ⟨od, I'⟩ := I.lock h1 h2
    exact lks_run L _ I' (h3 od)
/-- pinned: dicts, where they stood -/
def Pinned (A : Addr → Prop) (H H' : Hp) : Prop := ∀ a, H' a = H a ∨ (A a ∧ ∃ od u, H a = some u ∧ Mut (some u) ∧ H' a = some (.frz od u))
/-- dicts at the addresses of L can be pinned -/
theorem lks_all {A : Addr → Prop} {Q : Hp → Prop} : ∀ (L : List Addr) (H0 H : Hp), L.Nodup → (∀ a ∈ L, A a ∧ ∃ u, H a = some u ∧ Mut (some u) ∧ H0 a = H a) → Pinned A H0 H → (∀ H', Pinned A H0 H' → (∀ a ∈ L, ∃ od u, H0 a = some u ∧ H' a = some (.frz od u)) → (∀ a, a ∉ L → H' a = H a) → Q H') → Lks L H Q
  | [], H0, H, _, _, p, q => q H p (fun _ h => nomatch h) fun _ _ => rfl
  | a :: L, H0, H, nd, h, p, q => by
    obtain ⟨ha, u, h1, h2, h3⟩ := h a List.mem_cons_self
    have nd' := List.nodup_cons.mp nd
    refine ⟨u, h1, h2, fun od => lks_all L H0 _ nd'.2 (fun b hb => ?_) (fun b => ?_) fun H' p' q1 q2 => q H' p' (fun b hb => ?_) fun b hb => ?_⟩
    · have ne : b ≠ a := fun e => nd'.1 (e ▸ hb)
      obtain ⟨k, u', k1, k2, k3⟩ := h b (List.mem_cons_of_mem _ hb)
      exact ⟨k, u', by rw [upd_ne ne]; exact k1, k2, by rw [upd_ne ne]; exact k3⟩
    · by_cases e : b = a
      · subst e
        rw [upd_same]
        exact .inr ⟨ha, od, u, by rw [h3]; exact h1, h2, rfl⟩
      · rw [upd_ne e]; exact p b
    · rcases List.mem_cons.mp hb with rfl | hb
      · refine ⟨od, u, by rw [h3]; exact h1, ?_⟩
        rw [q2 b nd'.1, upd_same]
      · exact q1 b hb
    · rw [q2 b fun z => hb (List.mem_cons_of_mem _ z), upd_ne fun e => hb (by rw [e]; exact List.mem_cons_self)]
section
variable {Γ : Gl0} {base : Nat} {bs : List Nat} {G : Hp} {ι : List Addr} {F : Hp} {m : MH} {H H' : Hp}
def isDct : Ob → Bool
  | .dct _ _ => true
  | _ => false
/-- the addresses of what stands from b on -/
def Own (ι : List Addr) (m : MH) (b : Nat) (a : Addr) : Prop := ∃ i o, b ≤ i ∧ ι[i]? = some a ∧ m[i]? = some (some o)
def dAddrs (ι : List Addr) (m : MH) (b : Nat) : List Addr := (List.range m.length).filterMap fun i => if b ≤ i then (match m[i]?.getD none with
  | some o => if isDct o then ι[i]? else none
  | none => none) else none
theorem mem_dAddrs {b : Nat} {a : Addr} : a ∈ dAddrs ι m b ↔ ∃ i t kvs, b ≤ i ∧ ι[i]? = some a ∧ m[i]? = some (some (.dct t kvs)) := by
  unfold dAddrs
  rw [List.mem_filterMap]
  constructor
  · rintro ⟨i, hi, h⟩
    split at h
    · rename_i c
      split at h
      · rename_i o e
        split at h
        · rename_i d
          have e' : m[i]? = some (some o) := by
            cases q : m[i]? with
            | none => rw [q] at e; cases e
            | some x => rw [q] at e; exact congrArg some e
          cases o with
          | dct t kvs => exact ⟨i, t, kvs, c, h, e'⟩
          | _ => cases d
        · cases h
      · cases h
    · cases h
  · rintro ⟨i, t, kvs, c, h1, h2⟩
    refine ⟨i, List.mem_range.mpr (List.getElem?_eq_some_iff.mp h2).1, ?_⟩
    rw [if_pos c, h2]
    exact h1
theorem nodup_filterMap {α β : Type} {f : α → Option β} : ∀ {l : List α}, l.Nodup → (∀ x ∈ l, ∀ y ∈ l, ∀ b, f x = some b → f y = some b → x = y) → (l.filterMap f).Nodup
  | [], _, _ => List.nodup_nil
  | x :: l, nd, h => by
    have nd' := List.nodup_cons.mp nd
    have ih := nodup_filterMap (f := f) nd'.2 fun a ha b hb => h a (List.mem_cons_of_mem _ ha) b (List.mem_cons_of_mem _ hb)
    rw [List.filterMap_cons]
    split
    · exact ih
    · rename_i b e
      refine List.nodup_cons.mpr ⟨fun hm => ?_, ih⟩
      obtain ⟨y, hy, e2⟩ := List.mem_filterMap.mp hm
      have := h x List.mem_cons_self y (List.mem_cons_of_mem _ hy) b e e2
      exact nd'.1 (this ▸ hy)
theorem dAddrs_nodup (R : HR Γ base bs G ι F m H) (b : Nat) : (dAddrs ι m b).Nodup := by
  refine nodup_filterMap (List.nodup_range) fun i hi j hj a h1 h2 => ?_
  have get : ∀ {k : Nat}, (if b ≤ k then (match m[k]?.getD none with
      | some o => if isDct o then ι[k]? else none
      | none => none) else none) = some a → ∃ o, ι[k]? = some a ∧ m[k]? = some (some o) := fun {k} h => by
    split at h
    · split at h
      · rename_i o e
        split at h
        · refine ⟨o, h, ?_⟩
          cases q : m[k]? with
          | none => rw [q] at e; cases e
          | some x => rw [q] at e; exact congrArg some e
        · cases h
      · cases h
    · cases h
  obtain ⟨o, k1, k2⟩ := get h1
  obtain ⟨u, k3, k4⟩ := get h2
  exact R.uniq i j a o u k1 k3 k2 k4
/-- what is frozen behind the freezing of all from b on -/
noncomputable def frzF (ι : List Addr) (m : MH) (b : Nat) (F H : Hp) : Hp := fun a => by
  classical
  exact if Own ι m b a then H a else F a
theorem frzF_own {b : Nat} {a : Addr} (h : Own ι m b a) : frzF ι m b F H a = H a := by
  unfold frzF; rw [if_pos h]
theorem frzF_ne {b : Nat} {a : Addr} (h : ¬ Own ι m b a) : frzF ι m b F H a = F a := by
  unfold frzF; rw [if_neg h]
/-- the heap with dicts from b on pinned -/
structure Frozen (ι : List Addr) (m : MH) (b : Nat) (H H' : Hp) : Prop where
  dct : ∀ i a t kvs, b ≤ i → ι[i]? = some a → m[i]? = some (some (.dct t kvs)) → ∃ od u, H a = some u ∧ H' a = some (.frz od u)
  oth : ∀ a, a ∉ dAddrs ι m b → H' a = H a
theorem Frozen.not_own {b : Nat} (z : Frozen ι m b H H') {a : Addr} (h : ¬ Own ι m b a) : H' a = H a := z.oth a fun q => by
  obtain ⟨i, t, kvs, c, h1, h2⟩ := mem_dAddrs.mp q
  exact h ⟨i, _, c, h1, h2⟩
theorem HR.not_own (R : HR Γ base bs G ι F m H) {b : Nat} {a : Addr} (h : (F a).isSome = true ∨ (G a).isSome = true) : ¬ Own ι m b a := by
  rintro ⟨i, o, _, h1, h2⟩
  obtain ⟨k1, k2, _⟩ := R.live i a o h1 h2
  rcases h with h | h
  · rw [k1] at h; cases h
  · rw [k2] at h; cases h
theorem Frozen.sub (R : HR Γ base bs G ι F m H) {b : Nat} (z : Frozen ι m b H H') : Sub F (frzF ι m b F H') := fun a o h => by
  rw [frzF_ne (R.not_own (.inl (by rw [h]; rfl)))]
  exact h
end
mutual
theorem frzW_nf {k : Nat → Option D} : ∀ (d : D) (q : K2), nf d = some q → frzW k d = some d
  | .non, _, _ => rfl
  | .bl _, _, _ => rfl
  | .int _, _, _ => rfl
  | .str _, _, _ => rfl
  | .tup ds, _, h => by
    obtain ⟨ks, h1, h2⟩ := Option.map_eq_some_iff.mp (show (nfs ds).map K2.tup = some _ from h)
    show (frzWs k ds).map D.tup = _
    rw [frzWs_nf ds ks h1]; rfl
  | .lst ds, _, h => by
    obtain ⟨ks, h1, h2⟩ := Option.map_eq_some_iff.mp (show (nfs ds).map K2.lst = some _ from h)
    show (frzWs k ds).map D.lst = _
    rw [frzWs_nf ds ks h1]; rfl
  | .kls ds, _, h => by
    obtain ⟨ks, h1, h2⟩ := Option.map_eq_some_iff.mp (show (nfs ds).map K2.lst = some _ from h)
    show (frzWs k ds).map D.kls = _
    rw [frzWs_nf ds ks h1]; rfl
  | .dct _ _, _, h => by cases h
  | .ins _ _, _, h => by cases h
  | .ref _, _, h => by cases h
theorem frzWs_nf {k : Nat → Option D} : ∀ (ds : List D) (q : List K2), nfs ds = some q → frzWs k ds = some ds
  | [], _, _ => rfl
  | d :: ds, q, h => by
    have h' : (match nf d, nfs ds with
      | some k, some ks => some (k :: ks)
      | _, _ => none) = some q := h
    split at h'
    · rename_i a as e1 e2
      show (match frzW k d, frzWs k ds with
        | some x, some xs => some (x :: xs)
        | _, _ => none) = _
      rw [frzW_nf d a e1, frzWs_nf ds as e2]
    · cases h'
end
section
variable {Γ : Gl0} {ι ι' : List Addr} {F F' : Hp}
mutual
theorem frz_den (hS : Sub F F') {k : Nat → Option D} (hk : ∀ i d v, k i = some d → Den Γ ι F (.ref i) v → Den Γ ι' F' d v) : ∀ (d d' : D) (v : V), frzW k d = some d' → Den Γ ι F d v → Den Γ ι' F' d' v
  | .non, _, _, h, x => by cases h; exact x
  | .bl _, _, _, h, x => by cases h; exact x
  | .int _, _, _, h, x => by cases h; exact x
  | .str _, _, _, h, x => by cases h; exact x
  | .ref i, d', v, h, x => hk i d' v h x
  | .tup ds, _, _, h, ⟨a, vs, h1, h2, h3⟩ => by
    obtain ⟨es, e1, e2⟩ := Option.map_eq_some_iff.mp (show (frzWs k ds).map D.tup = some _ from h)
    subst e2
    exact ⟨a, vs, h1, hS.seqT h2, frz_dens hS hk ds es vs e1 h3⟩
  | .lst ds, _, _, h, ⟨a, vs, h1, h2, h3⟩ => by
    obtain ⟨es, e1, e2⟩ := Option.map_eq_some_iff.mp (show (frzWs k ds).map D.lst = some _ from h)
    subst e2
    exact ⟨a, vs, h1, hS _ _ h2, frz_dens hS hk ds es vs e1 h3⟩
  | .kls ds, _, _, h, ⟨a, vs, h1, h2, h3⟩ => by
    obtain ⟨es, e1, e2⟩ := Option.map_eq_some_iff.mp (show (frzWs k ds).map D.kls = some _ from h)
    subst e2
    exact ⟨a, vs, h1, hS.seqL h2, frz_dens hS hk ds es vs e1 h3⟩
  | .dct t kvs, _, _, h, ⟨a, h1, h3⟩ => by
    obtain ⟨es, e1, e2⟩ := Option.map_eq_some_iff.mp (show (frzWKV k kvs).map (D.dct t) = some _ from h)
    subst e2
    exact ⟨a, h1, h3.imp (fun ⟨y, o, fs, q, z⟩ => ⟨y, o, fs, hS _ _ q, frz_denK hS hk kvs es fs e1 z⟩) fun ⟨y, o, fs, q, z⟩ => ⟨y, o, fs, hS _ _ q, frz_denT hS hk kvs es fs e1 z⟩⟩
  | .ins c fs, _, _, h, ⟨a, dx, vs, h1, h2, h3⟩ => by
    obtain ⟨es, e1, e2⟩ := Option.map_eq_some_iff.mp (show (frzWF k fs).map (D.ins c) = some _ from h)
    subst e2
    exact ⟨a, dx, vs, h1, hS _ _ h2, frz_denF hS hk fs es vs e1 h3⟩
theorem frz_dens (hS : Sub F F') {k : Nat → Option D} (hk : ∀ i d v, k i = some d → Den Γ ι F (.ref i) v → Den Γ ι' F' d v) : ∀ (ds ds' : List D) (vs : List V), frzWs k ds = some ds' → Dens Γ ι F ds vs → Dens Γ ι' F' ds' vs
  | [], _, _, h, x => by cases h; exact x
  | d :: ds, ds', _, h, ⟨v, r, h1, h2, h3⟩ => by
    have h' : (match frzW k d, frzWs k ds with
      | some x, some xs => some (x :: xs)
      | _, _ => none) = some ds' := h
    split at h'
    · rename_i a as e1 e2
      cases h'
      exact ⟨v, r, h1, frz_den hS hk d a v e1 h2, frz_dens hS hk ds as r e2 h3⟩
    · cases h'
theorem frz_denK (hS : Sub F F') {k : Nat → Option D} (hk : ∀ i d v, k i = some d → Den Γ ι F (.ref i) v → Den Γ ι' F' d v) : ∀ (kvs kvs' : List (D × D)) (es : List (Key × V)), frzWKV k kvs = some kvs' → DenK Γ ι F kvs es → DenK Γ ι' F' kvs' es
  | [], _, _, h, x => by cases h; exact x
  | (a, b) :: r, kvs', _, h, ⟨j, v, es', h1, h2, h3, h4⟩ => by
    have h' : (match frzW k a, frzW k b, frzWKV k r with
      | some x, some y, some xs => some ((x, y) :: xs)
      | _, _, _ => none) = some kvs' := h
    split at h'
    · rename_i x y xs e1 e2 e3
      cases h'
      have e0 : frzW k a = some a := by rw [h2]; cases j <;> rfl
      rw [e0] at e1; cases e1
      exact ⟨j, v, es', h1, h2, frz_den hS hk b y v e2 h3, frz_denK hS hk r xs es' e3 h4⟩
    · cases h'
theorem frz_denT (hS : Sub F F') {k : Nat → Option D} (hk : ∀ i d v, k i = some d → Den Γ ι F (.ref i) v → Den Γ ι' F' d v) : ∀ (kvs kvs' : List (D × D)) (es : List (NestedKey × Addr × V)), frzWKV k kvs = some kvs' → DenT Γ ι F kvs es → DenT Γ ι' F' kvs' es
  | [], _, _, h, x => by cases h; exact x
  | (a, b) :: r, kvs', _, h, ⟨j, p, v, es', h1, ⟨q, h2, h2'⟩, h3, h4, h5⟩ => by
    have h' : (match frzW k a, frzW k b, frzWKV k r with
      | some x, some y, some xs => some ((x, y) :: xs)
      | _, _, _ => none) = some kvs' := h
    split at h'
    · rename_i x y xs e1 e2 e3
      cases h'
      have e0 : frzW k a = some a := by
        rcases key_shape h2 with ⟨z, z1, z2⟩ | ⟨ds, q', rfl, e4, z1, _⟩
        · exact absurd z1.symm (kK_tup z q)
        · exact frzW_nf (.tup ds) (.tup q') (by show (nfs ds).map K2.tup = _; rw [z1]; rfl)
      have e5 := frz_den hS hk a x _ e1 h3
      rw [e0] at e1; cases e1
      exact ⟨j, p, v, es', h1, ⟨q, h2, h2'⟩, e5, frz_den hS hk b y v e2 h4, frz_denT hS hk r xs es' e3 h5⟩
    · cases h'
theorem frz_denF (hS : Sub F F') {k : Nat → Option D} (hk : ∀ i d v, k i = some d → Den Γ ι F (.ref i) v → Den Γ ι' F' d v) : ∀ (fs fs' : Fs) (es : List (Str × V)), frzWF k fs = some fs' → DenF Γ ι F fs es → DenF Γ ι' F' fs' es
  | [], _, _, h, x => by cases h; exact x
  | (f, b) :: r, fs', _, h, ⟨v, es', h1, h2, h3⟩ => by
    have h' : (match frzW k b, frzWF k r with
      | some y, some xs => some ((f, y) :: xs)
      | _, _ => none) = some fs' := h
    split at h'
    · rename_i y xs e2 e3
      cases h'
      exact ⟨v, es', h1, frz_den hS hk b y v e2 h2, frz_denF hS hk r xs es' e3 h3⟩
    · cases h'
end
end
section
variable {Γ : Gl0} {base : Nat} {bs : List Nat} {G : Hp} {ι : List Addr} {F : Hp} {m : MH} {H H' : Hp}
theorem frzAt_den (R : HR Γ base bs G ι F m H) {b : Nat} (z : Frozen ι m b H H') : ∀ (n i : Nat) (d : D) (v : V), frzAt b m n i = some d → Den Γ ι F (.ref i) v → Den Γ (ι.take b) (frzF ι m b F H') d v
  | 0, _, _, _, h, _ => by cases h
  | n + 1, i, d, v, h, x => by
    unfold frzAt at h
    have ih := frzAt_den R z n
    have hS : Sub F (frzF ι m b F H') := z.sub R
    split at h
    · rename_i c
      cases h
      obtain ⟨a, rfl, ha⟩ := x
      exact ⟨a, rfl, by rw [List.getElem?_take_of_lt c]; exact ha⟩
    · rename_i c
      have c' : b ≤ i := by omega
      split at h
      · rename_i ds hm
        obtain ⟨es, e1, e2⟩ := Option.map_eq_some_iff.mp h
        subst e2
        obtain ⟨a, vs, rfl, ha, hH, dn⟩ := R.lst hm x
        refine ⟨a, vs, rfl, ?_, frz_dens hS ih ds es vs e1 dn⟩
        rw [frzF_own ⟨i, _, c', ha, hm⟩, z.oth a, hH]
        intro q
        obtain ⟨j, t, kvs, _, k1, k2⟩ := mem_dAddrs.mp q
        have := R.uniq i j a _ _ ha k1 hm k2
        subst this
        rw [hm] at k2; cases k2
      · rename_i t kvs hm
        obtain ⟨es, e1, e2⟩ := Option.map_eq_some_iff.mp h
        subst e2
        obtain ⟨a, ho, rfl, ha, hH, dd⟩ := R.dct hm x
        obtain ⟨od, u, q1, q2⟩ := z.dct i a t kvs c' ha hm
        rw [hH] at q1; cases q1
        have own : frzF ι m b F H' a = some (.frz od ho) := by rw [frzF_own ⟨i, _, c', ha, hm⟩, q2]
        refine ⟨a, rfl, ?_⟩
        rcases dd with ⟨rfl, fs, rfl, dd⟩ | ⟨rfl, fs, rfl, dd⟩
        · exact .inl ⟨rfl, od, fs, own, frz_denK hS ih kvs es fs e1 dd⟩
        · exact .inr ⟨rfl, od, fs, own, frz_denT hS ih kvs es fs e1 dd⟩
      · rename_i cl fs hm
        obtain ⟨es, e1, e2⟩ := Option.map_eq_some_iff.mp h
        subst e2
        obtain ⟨a, ho, rfl, ha, _, _, hH, dx, vs, rfl, dn⟩ := R.ref hm x
        refine ⟨a, dx, vs, rfl, ?_, frz_denF hS ih fs es vs e1 dn⟩
        rw [frzF_own ⟨i, _, c', ha, hm⟩, z.oth a, hH]
        intro q
        obtain ⟨j, t, kvs, _, k1, k2⟩ := mem_dAddrs.mp q
        have := R.uniq i j a _ _ ha k1 hm k2
        subst this
        rw [hm] at k2; cases k2
      · cases h
/-- all from b on is frozen and forgotten -/
theorem HR.freeze (R : HR Γ base bs G ι F m H) {b : Nat} (hb : b ∈ bs) (z : Frozen ι m b H H') {base' : Nat} {bs' : List Nat} (tp : base' ∈ bs' ∧ ∀ x ∈ bs', x ≤ base' ∧ x ≤ b ∧ x ∈ bs) :
    Ext ι F ι (frzF ι m b F H') ∧ HR Γ base' bs' G (ι.take b) (frzF ι m b F H') (m.take b) H' := by
  have hbl : b ≤ m.length := (R.top.2 b hb).2
  have lt : ∀ {i : Nat} {x : Option Ob}, (m.take b)[i]? = some x → i < b ∧ m[i]? = some x := fun {i x} h => by
    by_cases c : i < b
    · rw [List.getElem?_take_of_lt c] at h; exact ⟨c, h⟩
    · rw [List.getElem?_take_eq_none (by omega)] at h; cases h
  have lt' : ∀ {i : Nat} {x : Addr}, (ι.take b)[i]? = some x → i < b ∧ ι[i]? = some x := fun {i x} h => by
    by_cases c : i < b
    · rw [List.getElem?_take_of_lt c] at h; exact ⟨c, h⟩
    · rw [List.getElem?_take_eq_none (by omega)] at h; cases h
  have old : ∀ {i : Nat} {a : Addr} {o : Ob}, i < b → ι[i]? = some a → m[i]? = some (some o) → ¬ Own ι m b a := fun {i a o} c h1 h2 => by
    rintro ⟨j, u, cj, k1, k2⟩
    have := R.uniq i j a o u h1 k1 h2 k2
    omega
  have ee : Ext ι F ι (frzF ι m b F H') := ⟨⟨[], by simp⟩, z.sub R⟩
  refine ⟨ee, ?_, ?_, ?_, ?_, ?_, ?_, ?_, ?_⟩
  · intro a o h
    have h2 := R.not_own (b := b) (a := a) (.inr (by rw [h]; rfl))
    rw [z.not_own h2]; exact R.g _ _ h
  · intro a o h
    by_cases c : Own ι m b a
    · rw [frzF_own c] at h; exact h
    · rw [frzF_ne c] at h; rw [z.not_own c]; exact R.f _ _ h
  · intro a o h
    rw [frzF_ne (R.not_own (.inr (by rw [h]; rfl)))]
    exact R.fg _ _ h
  · rw [List.length_take, List.length_take, R.len]
  · intro i a o h1 h2
    obtain ⟨c, h1⟩ := lt' h1
    obtain ⟨_, h2⟩ := lt h2
    obtain ⟨k1, k2, ho, k3, k4⟩ := R.live i a o h1 h2
    have no := old c h1 h2
    exact ⟨by rw [frzF_ne no]; exact k1, k2, ho, by rw [z.not_own no]; exact k3, (k4.cut (by rw [R.len]; exact hbl) (R.bel b hb i o c h2)).mono ⟨⟨[], by simp⟩, z.sub R⟩⟩
  · intro i j a o u h1 h2 h3 h4
    exact R.uniq i j a o u (lt' h1).2 (lt' h2).2 (lt h3).2 (lt h4).2
  · exact ⟨tp.1, fun x hx => ⟨(tp.2 x hx).1, by rw [List.length_take]; have := (tp.2 x hx).2.1; omega⟩⟩
  · intro x hx i o hi h
    exact R.bel x (tp.2 x hx).2.2 i o hi (lt h).2
/-- pinning makes the heap a frozen one -/
theorem lks_frozen (R : HR Γ base bs G ι F m H) (b : Nat) {Q : Hp → Prop} (q : ∀ H', Frozen ι m b H H' → Q H') : Lks (dAddrs ι m b) H Q := by
  refine lks_all (A := fun _ => True) (dAddrs ι m b) H H (dAddrs_nodup R b) (fun a ha => ?_) (fun a => .inl rfl) fun H' _ p1 p2 => q H' ⟨fun i a t kvs c h1 h2 => ?_, fun a ha => p2 a ha⟩
  · obtain ⟨i, t, kvs, c, h1, h2⟩ := mem_dAddrs.mp ha
    obtain ⟨k1, k2, ho, k3, k4⟩ := R.live i a _ h1 h2
    exact ⟨trivial, ho, k3, DctDen.mut k4, rfl⟩
  · obtain ⟨od, u, e1, e2⟩ := p1 a (mem_dAddrs.mpr ⟨i, t, kvs, c, h1, h2⟩)
    exact ⟨od, u, e1, e2⟩
end
end Zi
set_option maxHeartbeats 4000000
/-! Z7: expressions. -/
namespace Zi
open PySem PySem.Spec PyProof.Rows L2

/-! ### shapes -/
def noStar : Expr → Bool
  | .Starred _ _ => false
  | _ => true
def noSuper : Expr → Bool
  | .Call (.Name _ _) [] [] _ => false
  | _ => true
def noSl : Expr → Bool
  | .Slice _ _ _ _ => false
  | _ => true
def noSet : Expr → Bool
  | .Set _ _ _ => false
  | _ => true
def plainT : Expr → Bool
  | .UnaryOp .Not _ _ => false
  | .BoolOp _ _ _ => false
  | .IfExp _ _ _ _ => false
  | .Compare _ _ _ _ => false
  | _ => true
theorem star_cons {e : Expr} (h : noStar e = true) (es : List Expr) (env : Env) : starEach (e :: es) env = (false, eval e env) :: starEach es env := by
  cases e <;> first | rfl | cases h
theorem star_all {es : List Expr} (h : es.all noStar = true) (env : Env) : ∀ pos : Pos, (backTo pos (starEach es env)).any (·.1) = false ∧ (backTo pos (starEach es env)).all (fun x => !x.1) = true := by
  induction es with
  | nil => intro pos; exact ⟨rfl, rfl⟩
  | cons e es ih =>
    intro pos
    rw [List.all_cons, Bool.and_eq_true] at h
    rw [star_cons h.1]
    obtain ⟨i1, i2⟩ := ih h.2 pos
    exact ⟨by show (false || (backTo pos (starEach es env)).any (·.1)) = false; rw [i1]; rfl, by show (true && (backTo pos (starEach es env)).all fun x => !x.1) = true; rw [i2]; rfl⟩
theorem att_base {o : Expr} (h : noSuper o = true) (f : Str) (env : Env) (w : Sem Value) : attributeBase o f env w = w := by
  unfold attributeBase
  split
  · cases h
  · rfl
theorem sl_plain {e : Expr} (h : noSl e = true) (o i : Value) : subscripted e false o i = operate [o, i] (getItem o i) := by
  cases e <;> first | rfl | cases h
theorem no_mark {e : Expr} (h : noSet e = true) (op : CmpOp) : behindInMarks op e = false := by
  cases e <;> first | rfl | cases h
theorem last_mark {e : Expr} (h : noSet e = true) (op op' : CmpOp) (b : Expr) : lastMarks [op, op'] [b, e] = false := no_mark h op'
theorem true_plain {e : Expr} (h : plainT e = true) (env : Env) (whole : Sem Value) : isTrue e env whole = (do let v ← whole; standAt e.pos; holding [v] (truthy v)) := by
  cases e with
  | UnaryOp op x p => cases op <;> first | rfl | cases h
  | _ => first | rfl | cases h
theorem folded {e : Expr} (h : noSet e = true) (env : Env) (x : Value) : foldedSetIterable e env x = Pure.pure x := by
  unfold foldedSetIterable
  cases e <;> first | rfl | cases h

section
variable {X : Cx} {Γ : Gl0} {base : Nat} {W : WX} {a b c e : Expr} {es : List Expr} {pos apos : Pos} {f f1 f2 f3 : Ev → MH → R D} {fs : Ev → MH → R (List D)}
/-! ### rows of expressions -/
theorem z_nil : PA X [] (tA Γ base W fun _ m => .ok [] m) := PA.imp pa_nil fun σ H Q ⟨bs, G, ι, F, ρ, m, sr, hr, h⟩ => h [] ι F H (Ext.refl _ _) hr rfl
theorem z_cons (h1 : PE X e (tE Γ base W f)) (h2 : PA X es (tA Γ base W fs)) (hs : noStar e = true) : PA X (e :: es) (tA Γ base W fun ρ m => (f ρ m).bind fun x m => (fs ρ m).bind fun xs m => .ok (x :: xs) m) := by
  refine PA.imp (pa_cons h1 h2 (star_cons hs es X.env)) fun σ H Q ⟨bs, G, ι, F, ρ, m, sr, hr, h⟩ => ?_
  refine ⟨bs, G, ι, F, ρ, m, sr, hr, (Pst.bind h).imp fun x H1 ⟨ι1, F1, d, m1, e1, hr1, dx, h1⟩ => ?_⟩
  refine ⟨bs, G, ι1, F1, ρ, m1, sr.mono e1, hr1, (Pst.bind h1).imp fun xs H2 ⟨ι2, F2, ds, m2, e2, hr2, dxs, h2⟩ => ?_⟩
  exact h2 (x :: xs) ι2 F2 H2 (Ext.refl _ _) hr2 (.cons (dx.mono e2) dxs)
/-! ### leaves -/
theorem z_var {N : List Str} {x : Str} {i : Nat} (hN : X.N[i]? = some x) (hv : Vis X.env.scope x) (hd : (x == ("__debug__" : Str)) = false) (hc : (x == ("__classdict__" : Str)) = false) : PE X (.Name x pos) (tE Γ base W fun ρ m => ofO (ρ[i]?.getD none) m) := by
  refine PE.imp (pe_var hN hv hd hc) fun σ H Q ⟨bs, G, ι, F, ρ, m, sr, hr, h⟩ => ?_
  have h : Pst ⟨Γ, base, bs, G⟩ (Den Γ) ι F Q (fun cls d H' => W cls d σ H') (ofO (ρ[i]?.getD none) m) := h
  cases q : ρ[i]?.getD none with
  | none => rw [q] at h; exact h.elim
  | some d =>
    rw [q] at h
    have q' : ρ[i]? = some (some d) := by
      cases z : ρ[i]? with
      | none => rw [z] at q; cases q
      | some o => rw [z] at q; exact congrArg some q
    obtain ⟨v, e1, e2⟩ := sr.at_ i d q'
    exact ⟨v, e1, Pst.done hr h e2⟩
theorem z_lit {d : D} {v : V} (hd : ∀ ι F, Den Γ ι F d v) (h : PE X e (tC v)) : PE X e (tE Γ base W fun _ m => .ok d m) := by
  refine PE.imp h fun σ H Q ⟨bs, G, ι, F, ρ, m, sr, hr, h⟩ => ?_
  exact Pst.done hr h (hd ι F)
theorem z_tup {k : Nat} (h : PA X es (tA Γ base W fs)) : PE X (.Tuple es k pos) (tE Γ base W fun ρ m => (fs ρ m).bind mkT) := by
  refine PE.imp (pe_tup h) fun σ H Q ⟨bs, G, ι, F, ρ, m, sr, hr, h⟩ => ?_
  refine ⟨bs, G, ι, F, ρ, m, sr, hr, (Pst.bind h).imp fun xs H1 ⟨ι1, F1, ds, m1, e1, hr1, dx, h1⟩ => ?_⟩
  exact Pst.newT hr1 h1 dx
theorem z_lst {fz : Bool} (h : PA X es (tA Γ base W fs)) : PE X (.List es pos) (tE Γ base W fun ρ m => (fs ρ m).bind (mkL fz)) := by
  refine PE.imp (pe_lst h) fun σ H Q ⟨bs, G, ι, F, ρ, m, sr, hr, h⟩ => ?_
  refine ⟨bs, G, ι, F, ρ, m, sr, hr, (Pst.bind h).imp fun xs H1 ⟨ι1, F1, ds, m1, e1, hr1, dx, h1⟩ => ?_⟩
  exact Pst.newL hr1 h1 dx
/-! ### operators -/
theorem z_op2 {r : R2} {g : D → D → MH → R D} {e' : Expr} (hp : PE X e' (tOp r (tE Γ base W f1) (tE Γ base W f2)))
    (hr2 : ∀ (bs : List Nat) (G : Hp) (ι : List Addr) (F : Hp) (m : MH) (H : Hp) (x y : V) (dx dy : D) (Q : VK) (E : XK), HR Γ base bs G ι F m H → Den Γ ι F dx x → Den Γ ι F dy y → Pst ⟨Γ, base, bs, G⟩ (Den Γ) ι F Q E (g dx dy m) → r x y H Q) :
    PE X e' (tE Γ base W fun ρ m => (f1 ρ m).bind fun x m => (f2 ρ m).bind fun y m => g x y m) := by
  refine PE.imp hp fun σ H Q ⟨bs, G, ι, F, ρ, m, sr, hr, h⟩ => ?_
  refine ⟨bs, G, ι, F, ρ, m, sr, hr, (Pst.bind h).imp fun x H1 ⟨ι1, F1, d, m1, e1, hr1, dx, h1⟩ => ?_⟩
  refine ⟨bs, G, ι1, F1, ρ, m1, sr.mono e1, hr1, (Pst.bind h1).imp fun y H2 ⟨ι2, F2, d2, m2, e2, hr3, dy, h2⟩ => ?_⟩
  exact hr2 bs G ι2 F2 m2 H2 x y d d2 Q _ hr3 (dx.mono e2) dy h2
theorem z_bin (g : Gx Γ X) {op : Operator} {fz : Bool} (h1 : PE X a (tE Γ base W f1)) (h2 : PE X b (tE Γ base W f2)) : PE X (.BinOp a op b pos) (tE Γ base W fun ρ m => (f1 ρ m).bind fun x m => (f2 ρ m).bind fun y m => binD op fz x y m) :=
  z_op2 (pe_op (op_binZ g op fz) h1 h2) fun bs G ι F m H x y dx dy Q E hr hx hy h => ⟨bs, G, ι, F, m, dx, dy, E, hr, hx, hy, h⟩
theorem z_neg (h1 : PE X a (tE Γ base W f)) : PE X (.UnaryOp .USub a pos) (tE Γ base W fun ρ m => (f ρ m).bind fun x m => match x with
    | .int i => .ok (.int (-i)) m
    | _ => .bad) := by
  refine PE.imp (pe_un un_neg h1) fun σ H Q ⟨bs, G, ι, F, ρ, m, sr, hr, h⟩ => ?_
  refine ⟨bs, G, ι, F, ρ, m, sr, hr, (Pst.bind h).imp fun x H1 ⟨ι1, F1, d, m1, e1, hr1, dx, h1⟩ => ?_⟩
  split at h1
  · cases dx
    exact ⟨_, rfl, Pst.done hr1 h1 rfl⟩
  · exact h1.elim
theorem rCmp_of {op : CmpOp} {bs : List Nat} {G : Hp} {ι : List Addr} {F : Hp} {m : MH} {H : Hp} {x y : V} {dx dy : D} {Q : VK} {E : XK} (hr : HR Γ base bs G ι F m H) (hx : Den Γ ι F dx x) (hy : Den Γ ι F dy y)
    (h : Pst ⟨Γ, base, bs, G⟩ (Den Γ) ι F Q E ((ofO (cmpD op dx dy m) m).bind fun k m => .ok (.bl k) m)) : rCmp Γ base op x y H Q := by
  obtain ⟨k, e1, h2⟩ := Pst.ofO h
  exact ⟨bs, G, ι, F, m, dx, dy, k, hr, hx, hy, e1, Pst.done hr h2 rfl⟩
theorem z_cmp (g : Gx Γ X) {op : CmpOp} (h1 : PE X a (tE Γ base W f1)) (h2 : PE X b (tE Γ base W f2)) (hm : noSet b = true) : PE X (.Compare a [op] [b] pos) (tE Γ base W fun ρ m => (f1 ρ m).bind fun x m => (f2 ρ m).bind fun y m => (ofO (cmpD op x y m) m).bind fun k m => .ok (.bl k) m) :=
  z_op2 (g := fun x y m => (ofO (cmpD op x y m) m).bind fun k m => .ok (.bl k) m) (pe_cmpR (op_cmpZ g op) h1 h2 (no_mark hm op)) fun bs G ι F m H x y dx dy Q E hr hx hy h => rCmp_of hr hx hy h
theorem tChain_of {op op' : CmpOp} {σ : L2.St} {H : Hp} {Q : VK} (h : tE Γ base W (fun ρ m => (f1 ρ m).bind fun x m => (f2 ρ m).bind fun y m => (ofO (cmpD op x y m) m).bind fun k m =>
    if k = true then (f3 ρ m).bind fun z m => (ofO (cmpD op' y z m) m).bind fun k m => .ok (.bl k) m else .ok (.bl false) m) σ H Q) : tChain (rCmp Γ base op) (rCmp Γ base op') (tE Γ base W f1) (tE Γ base W f2) (tE Γ base W f3) σ H Q := by
  obtain ⟨bs, G, ι, F, ρ, m, sr, hr, h⟩ := h
  refine ⟨bs, G, ι, F, ρ, m, sr, hr, (Pst.bind h).imp fun x H1 ⟨ι1, F1, d, m1, e1, hr1, dx, h1⟩ => ?_⟩
  refine ⟨bs, G, ι1, F1, ρ, m1, sr.mono e1, hr1, (Pst.bind h1).imp fun y H2 ⟨ι2, F2, d2, m2, e2, hr2, dy, h2⟩ => ?_⟩
  obtain ⟨k, e3, h3⟩ := Pst.ofO h2
  refine ⟨bs, G, ι2, F2, m2, d, d2, k, hr2, dx.mono e2, dy, e3, k, rfl, ?_⟩
  cases k with
  | true =>
    rw [if_pos rfl] at h3 ⊢
    refine ⟨bs, G, ι2, F2, ρ, m2, (sr.mono e1).mono e2, hr2, (Pst.bind h3).imp fun z H3 ⟨ι3, F3, d3, m3, e4, hr3, dz, h4⟩ => ?_⟩
    exact rCmp_of hr3 (dy.mono e4) dz h4
  | false =>
    rw [if_neg Bool.false_ne_true] at h3 ⊢
    exact Pst.done hr2 h3 rfl
theorem z_chn (g : Gx Γ X) {op op' : CmpOp} (h1 : PE X a (tE Γ base W f1)) (h2 : PE X b (tE Γ base W f2)) (h3 : PE X c (tE Γ base W f3)) (hm : noSet c = true) : PE X (.Compare a [op, op'] [b, c] pos) (tE Γ base W fun ρ m => (f1 ρ m).bind fun x m => (f2 ρ m).bind fun y m => (ofO (cmpD op x y m) m).bind fun k m =>
    if k = true then (f3 ρ m).bind fun z m => (ofO (cmpD op' y z m) m).bind fun k m => .ok (.bl k) m else .ok (.bl false) m) :=
  PE.imp (pe_chain (op_cmpZ (base := base) g op) (op_cmpZ (base := base) g op') h1 h2 h3 (last_mark hm op op' b)) fun σ H Q h => tChain_of h
/-! ### truth -/
theorem tru_of (g : Gx Γ X) {bs : List Nat} {G : Hp} {ι : List Addr} {F : Hp} {m : MH} {H : Hp} (hr : HR Γ base bs G ι F m H) {d : D} {x : V} {k : Bool} (dx : Den Γ ι F d x) (h : truth m d = some k) : TruV X.K x H k := by
  rw [← g.K]; exact truth_ok hr dx h
theorem z_and (g : Gx Γ X) {rest : List Expr} (h1 : PE X a (tE Γ base W f1)) (h2 : PE X (.BoolOp .And (b :: rest) pos) (tE Γ base W f2)) : PE X (.BoolOp .And (a :: b :: rest) pos) (tE Γ base W fun ρ m => (f1 ρ m).bind fun x m => (ofO (truth m x) m).bind fun k m => if k = true then f2 ρ m else .ok x m) := by
  refine PE.imp (pe_andT h1 h2) fun σ H Q ⟨bs, G, ι, F, ρ, m, sr, hr, h⟩ => ?_
  refine ⟨bs, G, ι, F, ρ, m, sr, hr, (Pst.bind h).imp fun x H1 ⟨ι1, F1, d, m1, e1, hr1, dx, h1⟩ => ?_⟩
  obtain ⟨k, e2, h2⟩ := Pst.ofO h1
  refine ⟨k, tru_of g hr1 dx e2, ?_⟩
  cases k with
  | true => rw [if_pos rfl] at h2 ⊢; exact ⟨bs, G, ι1, F1, ρ, m1, sr.mono e1, hr1, h2⟩
  | false => rw [if_neg Bool.false_ne_true] at h2 ⊢; exact Pst.done hr1 h2 dx
theorem z_or (g : Gx Γ X) {rest : List Expr} (h1 : PE X a (tE Γ base W f1)) (h2 : PE X (.BoolOp .Or (b :: rest) pos) (tE Γ base W f2)) : PE X (.BoolOp .Or (a :: b :: rest) pos) (tE Γ base W fun ρ m => (f1 ρ m).bind fun x m => (ofO (truth m x) m).bind fun k m => if k = true then .ok x m else f2 ρ m) := by
  refine PE.imp (pe_orT h1 h2) fun σ H Q ⟨bs, G, ι, F, ρ, m, sr, hr, h⟩ => ?_
  refine ⟨bs, G, ι, F, ρ, m, sr, hr, (Pst.bind h).imp fun x H1 ⟨ι1, F1, d, m1, e1, hr1, dx, h1⟩ => ?_⟩
  obtain ⟨k, e2, h2⟩ := Pst.ofO h1
  refine ⟨k, tru_of g hr1 dx e2, ?_⟩
  cases k with
  | true => rw [if_pos rfl] at h2 ⊢; exact Pst.done hr1 h2 dx
  | false => rw [if_neg Bool.false_ne_true] at h2 ⊢; exact ⟨bs, G, ι1, F1, ρ, m1, sr.mono e1, hr1, h2⟩
theorem z_not (g : Gx Γ X) (h1 : PE X a (tE Γ base W f1)) : PE X (.UnaryOp .Not a pos) (tE Γ base W fun ρ m => (f1 ρ m).bind fun x m => (ofO (truth m x) m).bind fun k m => .ok (.bl (!k)) m) := by
  refine PE.imp (pe_notT h1) fun σ H Q ⟨bs, G, ι, F, ρ, m, sr, hr, h⟩ => ?_
  refine ⟨bs, G, ι, F, ρ, m, sr, hr, (Pst.bind h).imp fun x H1 ⟨ι1, F1, d, m1, e1, hr1, dx, h1⟩ => ?_⟩
  obtain ⟨k, e2, h2⟩ := Pst.ofO h1
  exact ⟨k, tru_of g hr1 dx e2, Pst.done hr1 h2 rfl⟩
/-- what a test is -/
def tst (f : Ev → MH → R D) : Ev → MH → R Bool := fun ρ m => (f ρ m).bind fun x m => ofO (truth m x) m
theorem zt_val (g : Gx Γ X) (hp : plainT e = true) (h1 : PE X e (tE Γ base W f)) : PT X e (tT Γ base W (tst f)) := by
  refine PT.imp (pt_truth h1 (true_plain hp X.env)) fun σ H Q ⟨bs, G, ι, F, ρ, m, sr, hr, h⟩ => ?_
  refine ⟨bs, G, ι, F, ρ, m, sr, hr, (Pst.bind h).imp fun x H1 ⟨ι1, F1, d, m1, e1, hr1, dx, h1⟩ => ?_⟩
  cases q : truth m1 d with
  | none => rw [q] at h1; exact h1.elim
  | some k => rw [q] at h1; exact ⟨k, tru_of g hr1 dx q, h1 k ι1 F1 H1 (Ext.refl _ _) hr1 rfl⟩
theorem z_ite {t : Ev → MH → R Bool} (ht : PT X c (tT Γ base W t)) (h1 : PE X a (tE Γ base W f1)) (h2 : PE X b (tE Γ base W f2)) : PE X (.IfExp c a b pos) (tE Γ base W fun ρ m => (t ρ m).bind fun k m => if k = true then f1 ρ m else f2 ρ m) := by
  refine PE.imp (pe_ifExp ht h1 h2) fun σ H Q ⟨bs, G, ι, F, ρ, m, sr, hr, h⟩ => ?_
  refine ⟨bs, G, ι, F, ρ, m, sr, hr, (Pst.bind h).imp fun k H1 ⟨ι1, F1, d, m1, e1, hr1, dx, h1⟩ => ?_⟩
  have : d = k := dx
  subst this
  cases d with
  | true => rw [if_pos rfl] at h1 ⊢; exact ⟨bs, G, ι1, F1, ρ, m1, sr.mono e1, hr1, h1⟩
  | false => rw [if_neg Bool.false_ne_true] at h1 ⊢; exact ⟨bs, G, ι1, F1, ρ, m1, sr.mono e1, hr1, h1⟩
/-! tests by parts -/
theorem zt_not {t : Ev → MH → R Bool} (ht : PT X a (tT Γ base W t)) : PT X (.UnaryOp .Not a pos) (tT Γ base W fun ρ m => (t ρ m).bind fun k m => .ok (!k) m) := by
  refine PT.imp (pt_not ht) fun σ H Q ⟨bs, G, ι, F, ρ, m, sr, hr, h⟩ => ?_
  refine ⟨bs, G, ι, F, ρ, m, sr, hr, (Pst.bind h).imp fun k H1 ⟨ι1, F1, d, m1, e1, hr1, dx, h1⟩ => ?_⟩
  have : d = k := dx
  subst this
  exact h1 (!d) ι1 F1 H1 (Ext.refl _ _) hr1 rfl
theorem PW.imp {X : Cx} {e : Expr} {t t' : TT} (h : PW X e t) (k : ∀ σ H Q, t' σ H Q → t σ H Q) : PW X e t' := ⟨fun w pins s σ H Q I z => h.run w pins s σ H Q I (k σ H Q z)⟩
theorem zt_and {t u : Ev → MH → R Bool} {rest : List Expr} (ht : PT X a (tT Γ base W t)) (hu : PW X (.BoolOp .And (b :: rest) pos) (tT Γ base W u)) : PW X (.BoolOp .And (a :: b :: rest) pos) (tT Γ base W fun ρ m => (t ρ m).bind fun k m => if k = true then u ρ m else .ok false m) := by
  refine PW.imp (pw_and ht hu) fun σ H Q ⟨bs, G, ι, F, ρ, m, sr, hr, h⟩ => ?_
  refine ⟨bs, G, ι, F, ρ, m, sr, hr, (Pst.bind h).imp fun k H1 ⟨ι1, F1, d, m1, e1, hr1, dx, h1⟩ => ?_⟩
  have : d = k := dx
  subst this
  cases d with
  | true => rw [if_pos rfl] at h1 ⊢; exact ⟨bs, G, ι1, F1, ρ, m1, sr.mono e1, hr1, h1⟩
  | false => rw [if_neg Bool.false_ne_true] at h1 ⊢; exact h1 false ι1 F1 H1 (Ext.refl _ _) hr1 rfl
theorem zt_or {t u : Ev → MH → R Bool} {rest : List Expr} (ht : PT X a (tT Γ base W t)) (hu : PW X (.BoolOp .Or (b :: rest) pos) (tT Γ base W u)) : PW X (.BoolOp .Or (a :: b :: rest) pos) (tT Γ base W fun ρ m => (t ρ m).bind fun k m => if k = true then .ok true m else u ρ m) := by
  refine PW.imp (pw_or ht hu) fun σ H Q ⟨bs, G, ι, F, ρ, m, sr, hr, h⟩ => ?_
  refine ⟨bs, G, ι, F, ρ, m, sr, hr, (Pst.bind h).imp fun k H1 ⟨ι1, F1, d, m1, e1, hr1, dx, h1⟩ => ?_⟩
  have : d = k := dx
  subst this
  cases d with
  | true => rw [if_pos rfl] at h1 ⊢; exact h1 true ι1 F1 H1 (Ext.refl _ _) hr1 rfl
  | false => rw [if_neg Bool.false_ne_true] at h1 ⊢; exact ⟨bs, G, ι1, F1, ρ, m1, sr.mono e1, hr1, h1⟩
/-- a value that is a truth value, as a test -/
theorem tTest_of {te : TE} {t : Ev → MH → R D} {σ : L2.St} {H : Hp} {Q : Bool → Hp → Prop} (k : ∀ Q', tE Γ base W t σ H Q' → te σ H Q')
    (hb : ∀ ρ m, ∀ d m', t ρ m = .ok d m' → ∃ b, d = .bl b) (h : tT Γ base W (tst t) σ H Q) : tTest te σ H Q := by
  obtain ⟨bs, G, ι, F, ρ, m, sr, hr, h⟩ := h
  refine k _ ⟨bs, G, ι, F, ρ, m, sr, hr, ?_⟩
  have h' := h
  unfold tst at h'
  cases q : t ρ m with
  | bad => rw [q] at h'; exact h'.elim
  | exc c fs m' => rw [q] at h'; exact h'
  | ok d m' =>
    obtain ⟨bb, rfl⟩ := hb ρ m d m' q
    rw [q] at h'
    intro v ι' F' H' e1 hr1 dx
    cases dx
    exact ⟨bb, rfl, h' bb ι' F' H' e1 hr1 rfl⟩
theorem zt_cmp (g : Gx Γ X) {op : CmpOp} (h1 : PE X a (tE Γ base W f1)) (h2 : PE X b (tE Γ base W f2)) (hm : noSet b = true) : PT X (.Compare a [op] [b] pos) (tT Γ base W (tst fun ρ m => (f1 ρ m).bind fun x m => (f2 ρ m).bind fun y m => (ofO (cmpD op x y m) m).bind fun k m => .ok (.bl k) m)) := by
  refine PT.imp (pt_cmpR (op_cmpZ (base := base) g op) h1 h2 (no_mark hm op)) fun σ H Q h => ?_
  refine tTest_of ?_ ?_ h
  · intro Q' ⟨bs, G, ι, F, ρ, m, sr, hr, h⟩
    refine ⟨bs, G, ι, F, ρ, m, sr, hr, (Pst.bind h).imp fun x H1 ⟨ι1, F1, d, m1, e1, hr1, dx, h1⟩ => ?_⟩
    refine ⟨bs, G, ι1, F1, ρ, m1, sr.mono e1, hr1, (Pst.bind h1).imp fun y H2 ⟨ι2, F2, d2, m2, e2, hr3, dy, h2⟩ => ?_⟩
    exact rCmp_of hr3 (dx.mono e2) dy h2
  · intro ρ m d m' q
    cases q1 : f1 ρ m with
    | ok x m1 =>
      rw [q1, Zi.R.bind_ok] at q
      cases q2 : f2 ρ m1 with
      | ok y m2 =>
        rw [q2, Zi.R.bind_ok] at q
        cases q3 : cmpD op x y m2 with
        | none => rw [q3] at q; cases q
        | some k => rw [q3] at q; cases q; exact ⟨k, rfl⟩
      | exc _ _ _ => rw [q2] at q; cases q
      | bad => rw [q2] at q; cases q
    | exc _ _ _ => rw [q1] at q; cases q
    | bad => rw [q1] at q; cases q
theorem zt_chn (g : Gx Γ X) {op op' : CmpOp} (h1 : PE X a (tE Γ base W f1)) (h2 : PE X b (tE Γ base W f2)) (h3 : PE X c (tE Γ base W f3)) (hm : noSet c = true) : PT X (.Compare a [op, op'] [b, c] pos) (tT Γ base W (tst fun ρ m => (f1 ρ m).bind fun x m => (f2 ρ m).bind fun y m => (ofO (cmpD op x y m) m).bind fun k m =>
    if k = true then (f3 ρ m).bind fun z m => (ofO (cmpD op' y z m) m).bind fun k m => .ok (.bl k) m else .ok (.bl false) m)) := by
  refine PT.imp (pt_chain (op_cmpZ (base := base) g op) (op_cmpZ (base := base) g op') h1 h2 h3 (last_mark hm op op' b)) fun σ H Q h => ?_
  refine tTest_of (fun Q' z => tChain_of z) ?_ h
  intro ρ m d m' q
  cases q1 : f1 ρ m with
  | ok x m1 =>
    rw [q1, Zi.R.bind_ok] at q
    cases q2 : f2 ρ m1 with
    | ok y m2 =>
      rw [q2, Zi.R.bind_ok] at q
      cases q3 : cmpD op x y m2 with
      | none => rw [q3] at q; cases q
      | some k =>
        rw [q3, ofO_some, Zi.R.bind_ok] at q
        split at q
        · cases q4 : f3 ρ m2 with
          | ok z m3 =>
            rw [q4, Zi.R.bind_ok] at q
            cases q5 : cmpD op' y z m3 with
            | none => rw [q5] at q; cases q
            | some k' => rw [q5] at q; cases q; exact ⟨k', rfl⟩
          | exc _ _ _ => rw [q4] at q; cases q
          | bad => rw [q4] at q; cases q
        · cases q; exact ⟨false, rfl⟩
    | exc _ _ _ => rw [q2] at q; cases q
    | bad => rw [q2] at q; cases q
  | exc _ _ _ => rw [q1] at q; cases q
  | bad => rw [q1] at q; cases q
end
end Zi
set_option maxHeartbeats 4000000
/-! Z7b: attributes, subscripts, calls. -/
namespace Zi
open PySem PySem.Spec PyProof.Rows L2
section
variable {X : Cx} {Γ : Gl0} {P : ZP} {fa : String → Addr} {n : Nat} {N : List Str} {sc : Scope} {asg : Str → Bool} {cm : Bool} {base : Nat} {W : WX} {a b c e o : Expr} {es : List Expr} {pos apos p : Pos} {f f1 f2 f3 : Ev → MH → R D} {fs : Ev → MH → R (List D)}
theorem tZ_bind {α β γ δ : Type} {rel : List Addr → Hp → α → β → Prop} {rel2 : List Addr → Hp → γ → δ → Prop} {g : Ev → MH → R α} {k : Ev → α → MH → R γ} {σ : L2.St} {H : Hp} {Q : δ → Hp → Prop} {Q1 : β → Hp → Prop} (h : tZ Γ base W rel2 (fun ρ m => (g ρ m).bind (k ρ)) σ H Q)
    (q : ∀ bs G ι F ρ m x H1 d, SR Γ ι F ρ σ → HR Γ base bs G ι F m H1 → rel ι F d x → Pst ⟨Γ, base, bs, G⟩ rel2 ι F Q (fun cls d H' => W cls d σ H') (k ρ d m) → Q1 x H1) : tZ Γ base W rel g σ H Q1 := by
  obtain ⟨bs, G, ι, F, ρ, m, sr, hr, h⟩ := h
  exact ⟨bs, G, ι, F, ρ, m, sr, hr, (Pst.bind h).imp fun x H1 ⟨ι1, F1, d, m1, e1, hr1, dx, h1⟩ => q bs G ι1 F1 ρ m1 x H1 d (sr.mono e1) hr1 dx h1⟩
/-! ### attributes -/
def attD (fld : String → String → Bool) (con : String → String → Option D) (x : D) (fn : String) (m : MH) : R D := match getI m x with
  | some (k, fs) => if fld k fn = true then ofO (fs.lookup fn) m else (match fs.lookup fn with
    | none => ofO (con k fn) m
    | some _ => .bad)
  | none => .bad
theorem fld_of {k fn : String} {call : Nat → String → List D → MH → R D} {b0 : Nat} (h : (ecOf P b0 call).fld k fn = true) : ∃ q, P.cls.lookup k = some q ∧ q.flds.contains fn = true := by
  have h' : (match P.cls.lookup k with
    | some q => q.flds.contains fn
    | none => false) = true := h
  split at h'
  · rename_i q e; exact ⟨q, e, h'⟩
  · cases h'
theorem con_of {k fn : String} {call : Nat → String → List D → MH → R D} {b0 : Nat} {d : D} (h : (ecOf P b0 call).con k fn = some d) : ∃ q, P.cls.lookup k = some q ∧ q.cons.lookup fn = some d := by
  obtain ⟨q, e1, e2⟩ := Option.bind_eq_some_iff.mp (show (P.cls.lookup k).bind (fun q => q.cons.lookup fn) = some d from h)
  exact ⟨q, e1, e2⟩
theorem meth_of {k fn g : String} {call : Nat → String → List D → MH → R D} {b0 : Nat} (h : (ecOf P b0 call).meth k fn = some g) : ∃ q, P.cls.lookup k = some q ∧ q.meths.lookup fn = some g := by
  obtain ⟨q, e1, e2⟩ := Option.bind_eq_some_iff.mp (show (P.cls.lookup k).bind (fun q => q.meths.lookup fn) = some g from h)
  exact ⟨q, e1, e2⟩
theorem z_att {fn : String} {call : Nat → String → List D → MH → R D} {b0 : Nat} (g : GoodX Γ P fa n N sc asg cm X) (h1 : PE X o (tE Γ base W f)) (hs : noSuper o = true) (ha : asc fn = true) :
    PE X (.Attribute o (Str.ofString fn) pos) (tE Γ base W fun ρ m => (f ρ m).bind fun x m => attD (ecOf P b0 call).fld (ecOf P b0 call).con x fn m) := by
  refine ⟨fun pins s σ H Q I h => ?_⟩
  refine attr_of (att_base hs _ _ _) (thn (h1.run pins s σ H _ I (tZ_bind h fun bs G ι F ρ m x H1 d sr hr dx h2 => (show (fun (x : V) H1 => ∃ bs G ι F m d, HR Γ base bs G ι F m H1 ∧ Den Γ ι F d x ∧ Pst ⟨Γ, base, bs, G⟩ (Den Γ) ι F Q (fun cls d H' => W cls d σ H') (attD (ecOf P b0 call).fld (ecOf P b0 call).con d fn m)) x H1 from ⟨bs, G, ι, F, m, d, hr, dx, h2⟩))) fun v s1 ⟨x, H1, I1, rx, bs, G, ι, F, m, d, hr, dx, h2⟩ => ?_)
  unfold attD at h2
  split at h2
  · rename_i k fs e
    obtain ⟨ad, dx', vs, rfl, hH, df⟩ := hr.getI e dx
    cases rx
    split at h2
    · rename_i c
      obtain ⟨q, q1, q2⟩ := fld_of c
      cases e2 : fs.lookup fn with
      | none => rw [e2] at h2; exact h2.elim
      | some d2 =>
        rw [e2] at h2
        obtain ⟨v2, l1, l2⟩ := (df.look ha).1 d2 e2
        obtain ⟨_, cf, _⟩ := g.gf.cls k q q1
        have na := g.gf.fld k q fn q1 q2
        rw [g.gx.K] at cf na
        exact getattr_ok I1 hH cf.cl na l1 fun u s' I' r' => ⟨v2, H1, I', r', Pst.done hr h2 l2⟩
    · split at h2
      · rename_i e2
        cases e3 : (ecOf P b0 call).con k fn with
        | none => rw [e3] at h2; exact h2.elim
        | some d2 =>
          rw [e3] at h2
          obtain ⟨q, q1, q2⟩ := con_of e3
          obtain ⟨_, cf, _⟩ := g.gf.cls k q q1
          obtain ⟨v2, u2, co, de⟩ := g.gf.con k q fn d2 q1 q2
          rw [g.gx.K] at cf co
          exact getcon_ok I1 hH cf.cl co ((df.look ha).2 e2) fun s' I' => ⟨v2, H1, I', co.rel, Pst.done hr h2 (de _ _)⟩
      · exact h2.elim
  · exact h2.elim
/-! ### subscripts -/
theorem z_sub (g : Gx Γ X) (h1 : PE X a (tE Γ base W f1)) (h2 : PE X b (tE Γ base W f2)) (hs : noSl b = true) : PE X (.Subscript a b pos) (tE Γ base W fun ρ m => (f1 ρ m).bind fun x m => (f2 ρ m).bind fun y m => ofO (subD x y m) m) := by
  refine z_op2 (g := fun x y m => ofO (subD x y m) m) (pe_ix (ix_subZ (base := base) g) h1 h2 (sl_plain hs)) fun bs G ι F m H x y dx dy Q E hr hx hy h => ?_
  cases e : subD dx dy m with
  | none => rw [e] at h; exact h.elim
  | some d => rw [e] at h; exact ⟨bs, G, ι, F, m, dx, dy, d, hr, hx, hy, e, fun v dv => Pst.done hr h dv⟩
abbrev relO : List Addr → Hp → Option D → Option Int → Prop := fun _ _ o i => optI o = some i
abbrev tO (Γ : Gl0) (base : Nat) (W : WX) (g : Ev → MH → R (Option D)) : TO := tZ Γ base W relO g
theorem z_noPart : PO X none (tO Γ base W fun _ m => .ok none m) :=
  ⟨fun pins s σ H Q I ⟨bs, G, ι, F, ρ, m, sr, hr, h⟩ => (po_none (X := X)).run pins s σ H Q I (h none ι F H (Ext.refl _ _) hr rfl)⟩
theorem z_part (h1 : PE X a (tE Γ base W f)) : PO X (some a) (tO Γ base W fun ρ m => (f ρ m).bind fun x m => match x with
    | .int i => .ok (some (.int i)) m
    | _ => .bad) := by
  refine ⟨fun pins s σ H Q I h => (po_some h1).run pins s σ H Q I ?_⟩
  refine tZ_bind h fun bs G ι F ρ m x H1 d sr hr dx h2 => ?_
  split at h2
  · rename_i i
    cases dx
    exact ⟨i, rfl, h2 (some i) ι F H1 (Ext.refl _ _) hr rfl⟩
  · exact h2.elim
theorem z_slc (g : Gx Γ X) {fz : Bool} {lo hi : Option Expr} {fl fh : Ev → MH → R (Option D)} {p2 : Pos} (h1 : PE X a (tE Γ base W f)) (hl : PO X lo (tO Γ base W fl)) (hh : PO X hi (tO Γ base W fh)) :
    PE X (.Subscript a (.Slice lo hi none p2) pos) (tE Γ base W fun ρ m => (f ρ m).bind fun x m => (fl ρ m).bind fun l m => (fh ρ m).bind fun h m => slcD fz x l h m) := by
  refine PE.imp (pe_slice (sl_Z (base := base) g fz) h1 hl hh) fun σ H Q h => ?_
  refine tZ_bind h fun bs G ι F ρ m x H1 d sr hr dx h2 => ?_
  refine ⟨bs, G, ι, F, ρ, m, sr, hr, (Pst.bind (rel := relO) h2).imp fun l H2 ⟨ι1, F1, l', m1, e1, hr1, dl, h3⟩ => ?_⟩
  refine ⟨bs, G, ι1, F1, ρ, m1, sr.mono e1, hr1, (Pst.bind (rel := relO) h3).imp fun u H3 ⟨ι2, F2, u', m2, e2, hr2, du, h4⟩ => ?_⟩
  unfold slcD at h4
  rw [show optI l' = some l from dl, show optI u' = some u from du] at h4
  exact ⟨bs, G, ι2, F2, m2, d, _, hr2, (dx.mono e1).mono e2, h4⟩
theorem z_rev (g : Gx Γ X) {fz : Bool} {k : Nat} {p1 p2 p3 : Pos} (h1 : PE X a (tE Γ base W f)) : PE X (.Subscript a (.Slice none none (some (.UnaryOp .USub (.Constant (.int 1) k p1) p2)) p3) pos) (tE Γ base W fun ρ m => (f ρ m).bind fun x m => match getL m x with
    | some ds => mkL fz ds.reverse m
    | none => .bad) := by
  refine PE.imp (pe_revL h1) fun σ H Q h => tZ_bind h fun bs G ι F ρ m x H1 d sr hr dx h2 => ?_
  split at h2
  · rename_i ds e
    obtain ⟨ad, vs, rfl, k1, dn⟩ := hr.getL e dx
    rw [g.K] at k1
    exact ⟨ad, vs, rfl, k1, (Pst.newL hr h2 dn.reverse).2⟩
  · exact h2.elim
/-! ### calls of defs -/
theorem callW {Q : Value → Shared → Prop} {s : Shared} {fA : Addr} {first : List Value} {ta : TA} {pins : List (Addr × Obj)} {σ : L2.St} {H : Hp} (hp : PA X (e :: es) ta) (hst : (e :: es).all noStar = true) (hk : PySem.W.keepIn X.K (.ref fA) = true) (I : Inv X pins σ H s)
    (h : ta σ H fun vs H1 => ∀ us s1, Inv X pins σ H1 s1 → Vals vs us → wpAny (model X.prog X.w) X.A (call (.ref fA) (first ++ us)) Q X.xe s1) :
    wpAny (model X.prog X.w) X.A (callWith pos (.ref fA) first (backTo pos (starEach (e :: es) X.env)) []) Q X.xe s := by
  rw [List.all_cons, Bool.and_eq_true] at hst
  exact PySem.W.callWith_K (h₀ := X.base) I.ok.mod.kin hk (thn (hp.run pos pins s σ H _ I h) fun us s1 ⟨vs, H1, I1, r, q⟩ => ⟨I1.kIn, q us s1 I1 r⟩) (star_cons hst.1 es X.env) (star_all hst.2 X.env pos).1
theorem gl_of (g : GoodX Γ P fa n N sc asg cm X) {x : Str} (h : sc.names.lookup x = some .globalImplicit) : Gl X x := by
  show X.env.scope.names.lookup x = _
  rw [g.scp]; exact h
theorem bind_ok_id {α : Type} (r : R α) : r.bind (fun d m => .ok d m) = r := by cases r <;> rfl
/-- f(e, ..) -/
theorem z_call {kp : Bool} {fn : String} (g : GoodX Γ P fa n N sc asg true X) (tk : Takes X W) (hg : P.gl.contains fn = true) (hn : sc.names.lookup (Str.ofString fn) = some .globalImplicit) (hd : (Str.ofString fn == ("__debug__" : Str)) = false) (hp : PA X (e :: es) (tA Γ base W fs)) (hst : (e :: es).all noStar = true) :
    PE X (.Call (.Name (Str.ofString fn) p) (e :: es) [] pos) (tE Γ base W fun ρ m => (fs ρ m).bind fun xs m => gcR m.length kp (callF P n m.length fn xs m)) := by
  refine ⟨fun pins s σ H Q I h => ?_⟩
  obtain ⟨hm, hk⟩ := g.gf.gl fn (by simpa using hg)
  rw [g.gx.K] at hk
  refine wpAny_Call_Name_kw (ld_glob I (gl_of g hn) hm ?_ hd)
  refine callW hp hst hk I (tZ_bind h fun bs G ι F ρ m x H1 d sr hr dx h2 => fun us s1 I1 r => ?_)
  exact wpAny_call (codeAny_mono (callZ g tk I1 hr dx r h2) fun r s' hq => by
    cases r with
    | error e => exact hq
    | ok fl => cases fl with
      | ret v => exact hq
      | _ => exact hq)
/-- o.m(e, ..) -/
def metD (meth : String → String → Option String) (x : D) (fn : String) (k : String → MH → R D) (m : MH) : R D := match getI m x with
  | some (c, fs) => match meth c fn, fs.lookup fn with
    | some g, none => k g m
    | _, _ => .bad
  | none => .bad
theorem meth_ready {Q : Value → Shared → Prop} {pl : Sem Bool} {s : Shared} {pins : List (Addr × Obj)} {σ : L2.St} {H : Hp} {bs : List Nat} {G : Hp} {ι : List Addr} {F : Hp} {m : MH} {x : V} {v : Value} {d : D} {k : String → MH → R D} {Q0 : VK} {E : XK} {fn : String} {call : Nat → String → List D → MH → R D} {b0 : Nat} (g : GoodX Γ P fa n N sc asg cm X) (ha : asc fn = true) (I : Inv X pins σ H s) (hr : HR Γ base bs G ι F m H) (dx : Den Γ ι F d x) (rx : RelV x v)
    (h : Pst ⟨Γ, base, bs, G⟩ (Den Γ) ι F Q0 E (metD (ecOf P b0 call).meth d fn k m))
    (q : ∀ gn ad, x = .ref ad → v = .ref ad → PySem.W.keepIn X.K (.ref (fa gn)) = true → Pst ⟨Γ, base, bs, G⟩ (Den Γ) ι F Q0 E (k gn m) → wpAny (model X.prog X.w) X.A (callWith pos (.ref (fa gn)) [v] (backTo pos (starEach es X.env)) []) Q X.xe s) :
    wpAny (model X.prog X.w) X.A (getMethod v (Str.ofString fn) pl) (fun fx s₂ => wpAny (model X.prog X.w) X.A (callWith pos fx.1 fx.2 (backTo pos (starEach es X.env)) []) Q X.xe s₂) X.xe s := by
  unfold metD at h
  split at h
  · rename_i c fs e
    split at h
    · rename_i gn e1 e2
      obtain ⟨qc, q1, q2⟩ := meth_of e1
      obtain ⟨_, cf, _⟩ := g.gf.cls c qc q1
      have mt := g.gf.mth c qc fn gn q1 q2
      rw [g.gx.K] at cf mt
      obtain ⟨ad, dx', vs, rfl, hH, df⟩ := hr.getI e dx
      cases rx
      exact getmeth_ok I hH cf.cl mt ((df.look ha).2 e2) (q gn ad rfl rfl mt.kp h)
    · exact h.elim
  · exact h.elim
theorem call_attr {Q : Value → Shared → Prop} {s : Shared} {fn : Str} (hs : noSuper o = true) (hst : es.all noStar = true) (hl : es.length < 30) (hline : (apos.endLine == pos.line) = true)
    (h : wpAny (model X.prog X.w) X.A (eval o X.env) (fun v s1 => ∃ pl, wpAny (model X.prog X.w) X.A (getMethod v fn (do return (← importBound o X.env).getD true)) (fun fx s₂ => wpAny (model X.prog X.w) X.A (callWith pos fx.1 fx.2 (backTo pos (starEach es X.env)) []) Q X.xe s₂) X.xe s1 ∧ pl = true) X.xe s) :
    wpAny (model X.prog X.w) X.A (eval (.Call (.Attribute o fn apos) es [] pos) X.env) Q X.xe s := by
  rw [arm_eval_Call, att_base hs]
  refine wpAny_bind (wpAny_mono h (fun v s1 ⟨_, h1, _⟩ => ?_) fun _ _ e => e)
  refine wpAny_bind (wpAny_standAt ?_)
  have hform : methodCallForm (es.length + ([] : List Keyword).length) (backTo pos (starEach es X.env)) (backToKw pos (keywordEach [] X.env)) = true := by
    unfold methodCallForm
    rw [(star_all hst X.env pos).2]
    show (true && true && decide (es.length + 0 + 0 < 30)) = true
    rw [decide_eq_true (by omega)]; rfl
  have hpos : methodCallPos true o X.env apos pos = Pure.pure pos := by unfold methodCallPos; simp [hline]
  unfold methodCall
  rw [hform]
  refine wpAny_bind (wpAny_holding (wpAny_mono h1 (fun fx s2 h2 => ?_) fun _ _ e => e))
  exact wpAny_bind (wpAny_of_eq hpos h2)
theorem z_met {kp : Bool} {fn : String} {call : Nat → String → List D → MH → R D} {b0 : Nat} (g : GoodX Γ P fa n N sc asg true X) (tk : Takes X W) (h1 : PE X o (tE Γ base W f)) (hs : noSuper o = true) (ha : asc fn = true) (hp : PA X (e :: es) (tA Γ base W fs)) (hst : (e :: es).all noStar = true) (hl : (e :: es).length < 30) (hline : (apos.endLine == pos.line) = true) :
    PE X (.Call (.Attribute o (Str.ofString fn) apos) (e :: es) [] pos) (tE Γ base W fun ρ m => (f ρ m).bind fun x m => metD (ecOf P b0 call).meth x fn (fun gn m => (fs ρ m).bind fun xs m => gcR m.length kp (callF P n m.length gn (x :: xs) m)) m) := by
  refine ⟨fun pins s σ H Q I h => ?_⟩
  refine call_attr hs hst hl hline (thn (h1.run pins s σ H _ I (tZ_bind h fun bs G ι F ρ m x H1 d sr hr dx h2 => (show (fun (x : V) H1 => ∃ bs G ι F ρ m d, SR Γ ι F ρ σ ∧ HR Γ base bs G ι F m H1 ∧ Den Γ ι F d x ∧ Pst ⟨Γ, base, bs, G⟩ (Den Γ) ι F Q (fun cls d H' => W cls d σ H') (metD (ecOf P b0 call).meth d fn (fun gn m => (fs ρ m).bind fun xs m => gcR m.length kp (callF P n m.length gn (d :: xs) m)) m)) x H1 from ⟨bs, G, ι, F, ρ, m, d, sr, hr, dx, h2⟩))) fun v s1 ⟨x, H1, I1, rx, bs, G, ι, F, ρ, m, d, sr, hr, dx, h2⟩ => ⟨true, ?_, rfl⟩)
  refine meth_ready g ha I1 hr dx rx h2 fun gn ad e1 e2 hk h3 => ?_
  subst e1 e2
  refine callW hp hst hk I1 ⟨bs, G, ι, F, ρ, m, sr, hr, (Pst.bind h3).imp fun xs H2 ⟨ι2, F2, ds, m2, e2, hr2, dxs, h4⟩ => fun us s2 I2 r => ?_⟩
  exact wpAny_call (codeAny_mono (callZ (us := .ref ad :: us) (vs := .ref ad :: xs) g tk I2 hr2 (.cons (dx.mono e2) dxs) (.cons rfl r) h4) fun r s' hq => by
    cases r with
    | error e => exact hq
    | ok fl => cases fl with
      | ret v => exact hq
      | _ => exact hq)
theorem z_met0 {kp : Bool} {fn : String} {call : Nat → String → List D → MH → R D} {b0 : Nat} (g : GoodX Γ P fa n N sc asg true X) (tk : Takes X W) (h1 : PE X o (tE Γ base W f)) (hs : noSuper o = true) (ha : asc fn = true) (hline : (apos.endLine == pos.line) = true) :
    PE X (.Call (.Attribute o (Str.ofString fn) apos) [] [] pos) (tE Γ base W fun ρ m => (f ρ m).bind fun x m => metD (ecOf P b0 call).meth x fn (fun gn m => gcR m.length kp (callF P n m.length gn [x] m)) m) := by
  refine ⟨fun pins s σ H Q I h => ?_⟩
  refine call_attr (es := []) hs rfl (by decide) hline (thn (h1.run pins s σ H _ I (tZ_bind h fun bs G ι F ρ m x H1 d sr hr dx h2 => (show (fun (x : V) H1 => ∃ bs G ι F ρ m d, SR Γ ι F ρ σ ∧ HR Γ base bs G ι F m H1 ∧ Den Γ ι F d x ∧ Pst ⟨Γ, base, bs, G⟩ (Den Γ) ι F Q (fun cls d H' => W cls d σ H') (metD (ecOf P b0 call).meth d fn (fun gn m => gcR m.length kp (callF P n m.length gn [d] m)) m)) x H1 from ⟨bs, G, ι, F, ρ, m, d, sr, hr, dx, h2⟩))) fun v s1 ⟨x, H1, I1, rx, bs, G, ι, F, ρ, m, d, sr, hr, dx, h2⟩ => ⟨true, ?_, rfl⟩)
  refine meth_ready g ha I1 hr dx rx h2 fun gn ad e1 e2 hk h3 => ?_
  subst e1 e2
  refine PySem.W.callWith_K0 I1.kIn hk ?_
  exact wpAny_call (codeAny_mono (callZ (us := [.ref ad]) (vs := [.ref ad]) g tk I1 hr (.one dx) (.cons rfl .nil) h3) fun r s' hq => by
    cases r with
    | error e => exact hq
    | ok fl => cases fl with
      | ret v => exact hq
      | _ => exact hq)
theorem z_call0 {kp : Bool} {fn : String} (g : GoodX Γ P fa n N sc asg true X) (tk : Takes X W) (hg : P.gl.contains fn = true) (hn : sc.names.lookup (Str.ofString fn) = some .globalImplicit) (hd : (Str.ofString fn == ("__debug__" : Str)) = false) :
    PE X (.Call (.Name (Str.ofString fn) p) [] [] pos) (tE Γ base W fun ρ m => gcR m.length kp (callF P n m.length fn [] m)) := by
  refine ⟨fun pins s σ H Q I ⟨bs, G, ι, F, ρ, m, sr, hr, h⟩ => ?_⟩
  obtain ⟨hm, hk⟩ := g.gf.gl fn (by simpa using hg)
  rw [g.gx.K] at hk
  refine wpAny_Call_Name_kw (ld_glob I (gl_of g hn) hm ?_ hd)
  refine PySem.W.callWith_K0 I.kIn hk ?_
  exact wpAny_call (codeAny_mono (callZ (us := []) (vs := []) g tk I hr Dens.nil .nil h) fun r s' hq => by
    cases r with
    | error e => exact hq
    | ok fl => cases fl with
      | ret v => exact hq
      | _ => exact hq)
/-! ### built-ins -/
def bltN : Bl → String
  | .len => "len" | .abs => "abs" | .max2 => "max" | .min2 => "min" | .maxL => "max" | .minL => "min" | .minT => "min" | .sum => "sum" | .all => "all" | .any => "any" | .sorted => "sorted"
  | .list => "list" | .tuple => "tuple" | .int => "int" | .bool => "bool" | .str => "str" | .sset => "" | .dict => "dict"
theorem bltN_in : ∀ b : Bl, b ≠ .sset → bltN b ∈ bltNames := by intro b hb; cases b <;> first | exact absurd rfl hb | decide
theorem bltN_boot : ∀ b : Bl, b ≠ .sset → bootBuiltins (Str.ofString (bltN b)) = some (bltV b) := by
  intro b hb
  cases b <;> first | exact absurd rfl hb | rfl | decide +kernel
theorem bltN_ok : ∀ b : Bl, Str.ofString (bltN b) ≠ ("__name__" : Str) ∧ (Str.ofString (bltN b) == ("__debug__" : Str)) = false := by
  intro b
  cases b <;> exact ⟨by decide +kernel, by decide +kernel⟩
theorem z_blt {bl : Bl} {fz : Bool} (g : GoodX Γ P fa n N sc asg true X) (hb : bl ≠ .sset) (hn : sc.names.lookup (Str.ofString (bltN bl)) = some .globalImplicit) (hp : PA X (e :: es) (tA Γ base W fs)) (hst : (e :: es).all noStar = true) :
    PE X (.Call (.Name (Str.ofString (bltN bl)) p) (e :: es) [] pos) (tE Γ base W fun ρ m => (fs ρ m).bind fun xs m => bltD bl fz xs m) := by
  rw [List.all_cons, Bool.and_eq_true] at hst
  have hm := g.gf.blt _ (bltN_in bl hb)
  have hv := bltN_boot bl hb
  obtain ⟨n1, n2⟩ := bltN_ok bl
  have run : PE X (.Call (.Name (Str.ofString (bltN bl)) p) (e :: es) [] pos) (tCB (rsZ Γ base (bltD bl fz)) (tA Γ base W fs)) := by
    have cr := call_bltZ (base := base) g.gx (g.clm rfl) bl fz hb
    generalize Str.ofString (bltN bl) = nm at *
    cases bl <;> first | exact absurd rfl hb | exact pe_callB cr (gl_of g hn) hm hv hp n1 n2 (star_cons hst.1 es X.env) (star_all hst.2 X.env pos).1 | exact pe_callTy cr (gl_of g hn) hm hv hp n1 n2 (star_cons hst.1 es X.env) (star_all hst.2 X.env pos).1
  exact PE.imp run fun σ H Q h => tZ_bind h fun bs G ι F ρ m xs H1 ds sr hr dx h2 => ⟨bs, G, ι, F, m, ds, _, hr, dx, h2⟩
/-! ### methods of lists and dicts -/
theorem ty_at {pins : List (Addr × Obj)} {σ : L2.St} {s : Shared} {bs : List Nat} {G : Hp} {ι : List Addr} {F : Hp} {m : MH} {H : Hp} {x : V} {v : Value} {d : D} {b : Bm} (g : Gx Γ X) (I : Inv X pins σ H s) (hr : HR Γ base bs G ι F m H) (dx : Den Γ ι F d x) (rx : RelV x v) (h : kindD m d = some (bmT b)) (hb : bmT b ≠ "str") :
    s.TypeIs v (bmT b) ∧ ∀ a, v = .ref a → ∃ ob, s.heap.get? a = some ob ∧ ob.dict = none := by
  have lst : ∀ ds, getL m d = some ds → s.TypeIs v "list" ∧ ∀ a, v = .ref a → ∃ ob, s.heap.get? a = some ob ∧ ob.dict = none := fun ds e => by
    obtain ⟨a, vs, rfl, k, _⟩ := hr.getL e dx
    rw [g.K] at k
    cases rx
    exact tyV_is (x := .ref a) I rfl (.inl ⟨rfl, vs, k⟩)
  have dct : ∀ t kvs, getK m d = some (t, kvs) → s.TypeIs v "dict" ∧ ∀ a, v = .ref a → ∃ ob, s.heap.get? a = some ob ∧ ob.dict = none := fun t kvs e => by
    obtain ⟨a, o, rfl, ha, hd⟩ := hr.getK e dx
    cases rx
    rcases hd with ⟨rfl, es, rfl, hd⟩ | ⟨rfl, es, rfl, hd⟩
    · obtain ⟨h1, h2, _⟩ := isD_at I (.inl ⟨es, ha⟩)
      exact ⟨h1, h2⟩
    · obtain ⟨z1, z2, vs, pt, dd⟩ := tdict_of I g.K g.w hr.f ha hd
      refine ⟨dd.typeIs, fun a' e' => ?_⟩
      cases e'
      obtain ⟨ob, _, _, h1, h2, _⟩ := dd
      exact ⟨ob, h1, h2.2.1⟩
  have cases2 : bmT b = "list" ∨ bmT b = "dict" := by cases b <;> first | exact .inl rfl | exact .inr rfl | exact absurd rfl hb
  cases d with
  | lst ds =>
    have e : bmT b = "list" := (Option.some.inj h).symm
    rw [e]; exact lst ds rfl
  | kls ds =>
    have e : bmT b = "list" := (Option.some.inj h).symm
    rw [e]; exact lst ds rfl
  | dct t kvs =>
    have e : bmT b = "dict" := (Option.some.inj h).symm
    rw [e]; exact dct t kvs rfl
  | ref i =>
    have h' : (match m[i]? with
      | some (some (.lst _)) => some "list"
      | some (some (.dct _ _)) => some "dict"
      | _ => none) = some (bmT b) := h
    split at h'
    · rename_i ds hm
      have e : bmT b = "list" := (Option.some.inj h').symm
      rw [e]; exact lst ds (getL_ref hm)
    · rename_i t kvs hm
      have e : bmT b = "dict" := (Option.some.inj h').symm
      rw [e]; refine dct t kvs ?_
      show (match m[i]? with
        | some (some (.dct t kvs)) => some (t, kvs)
        | _ => none) = _
      rw [hm]
    · cases h'
  | str _ => exact absurd (Option.some.inj h).symm hb
  | non => cases h
  | bl _ => cases h
  | int _ => cases h
  | tup _ => cases h
  | ins c fs => cases h
def bmOk : Bm → Bool
  | .append | .pop | .popAt | .extend | .index | .get1 | .get2 | .dpop1 | .setdef => true
  | _ => false
theorem bm_slot : ∀ b : Bm, bmOk b = true → PlainAttrs (bmT b) ∧ Slot (bmT b) (bmN b) (bmI b) ∧ typeOf (.builtin (bmI b)) = Pure.pure (.type "method_descriptor") := by
  intro b h
  cases b <;> first
    | exact absurd h (by decide)
    | exact ⟨PySem.F.plainAttrs_list, PySem.F.slot_list_append, PySem.F.type_list_append⟩
    | exact ⟨PySem.F.plainAttrs_list, PySem.F.slot_list_pop, PySem.F.type_list_pop⟩
    | exact ⟨PySem.F.plainAttrs_list, PySem.F.slot_list_extend, PySem.F.type_list_extend⟩
    | exact ⟨PySem.F.plainAttrs_list, PySem.F.slot_list_index, PySem.F.type_list_index⟩
    | exact ⟨PySem.F.plainAttrs_dict, PySem.F.slot_dict_get, PySem.F.type_dict_get⟩
    | exact ⟨PySem.F.plainAttrs_dict, PySem.F.slot_dict_pop, PySem.F.type_dict_pop⟩
    | exact ⟨PySem.F.plainAttrs_dict, PySem.F.slot_dict_setdefault, PySem.F.type_dict_setdefault⟩
theorem bm_nostr {b : Bm} (h : bmOk b = true) : bmT b ≠ "str" := by cases b <;> first | decide | exact absurd h (by decide)
theorem z_bmt0 {b : Bm} {fz : Bool} (g : GoodX Γ P fa n N sc asg cm X) (hb : bmOk b = true) (h1 : PE X o (tE Γ base W f)) (hs : noSuper o = true) (hline : (apos.endLine == pos.line) = true) :
    PE X (.Call (.Attribute o (bmN b) apos) [] [] pos) (tE Γ base W fun ρ m => (f ρ m).bind fun x m => if kindD m x = some (bmT b) then bmtD base b fz x [] m else .bad) := by
  obtain ⟨pa, sl, ty⟩ := bm_slot b hb
  refine ⟨fun pins s σ H Q I h => ?_⟩
  refine wpAny_Call_method0_late (att_base hs _ _ _) hline (thn (h1.run pins s σ H _ I (tZ_bind h fun bs G ι F ρ m x H1 d sr hr dx h2 => (show (fun (x : V) H1 => ∃ bs G ι F m d, HR Γ base bs G ι F m H1 ∧ Den Γ ι F d x ∧ Pst ⟨Γ, base, bs, G⟩ (Den Γ) ι F Q (fun cls d H' => W cls d σ H') (if kindD m d = some (bmT b) then bmtD base b fz d [] m else .bad)) x H1 from ⟨bs, G, ι, F, m, d, hr, dx, h2⟩))) fun v s1 ⟨x, H1, I1, rx, bs, G, ι, F, m, d, hr, dx, h2⟩ => ?_)
  split at h2
  · rename_i c
    obtain ⟨t1, t2⟩ := ty_at g.gx I1 hr dx rx c (bm_nostr hb)
    exact ⟨bmT b, bmI b, pa, sl, ty, t1, t2, Calls.callWith_builtin rfl (PySem.evalArgs_none (mt_bmtZ g.gx b fz pins s1 σ H1 x [] v [] Q I1 rx .nil ⟨bs, G, ι, F, m, d, [], _, hr, dx, rfl, h2⟩))⟩
  · exact h2.elim
theorem z_bmt {b : Bm} {fz : Bool} (g : GoodX Γ P fa n N sc asg cm X) (hb : bmOk b = true) (h1 : PE X o (tE Γ base W f)) (hs : noSuper o = true) (hp : PA X (e :: es) (tA Γ base W fs)) (hst : (e :: es).all noStar = true) (hl : (e :: es).length < 30) (hline : (apos.endLine == pos.line) = true) :
    PE X (.Call (.Attribute o (bmN b) apos) (e :: es) [] pos) (tE Γ base W fun ρ m => (f ρ m).bind fun x m => if kindD m x = some (bmT b) then (fs ρ m).bind fun xs m => bmtD base b fz x xs m else .bad) := by
  obtain ⟨pa, sl, ty⟩ := bm_slot b hb
  refine ⟨fun pins s σ H Q I h => ?_⟩
  have few : ((backTo pos (starEach (e :: es) X.env)).all (fun x => !x.1) && (backToKw pos (keywordEach [] X.env)).all (fun x => x.1.isSome)
      && decide ((e :: es).length + ([] : List Keyword).length + (if ([] : List Keyword).isEmpty then 0 else 1) < 30)) = true := by
    rw [(star_all hst X.env pos).2]
    show (true && true && decide ((e :: es).length + 0 + 0 < 30)) = true
    rw [decide_eq_true (by omega)]; rfl
  refine wpAny_Call_method_late (att_base hs _ _ _) few hline rfl (thn (h1.run pins s σ H _ I (tZ_bind h fun bs G ι F ρ m x H1 d sr hr dx h2 => (show (fun (x : V) H1 => ∃ bs G ι F ρ m d, SR Γ ι F ρ σ ∧ HR Γ base bs G ι F m H1 ∧ Den Γ ι F d x ∧ Pst ⟨Γ, base, bs, G⟩ (Den Γ) ι F Q (fun cls d H' => W cls d σ H') (if kindD m d = some (bmT b) then (fs ρ m).bind fun xs m => bmtD base b fz d xs m else .bad)) x H1 from ⟨bs, G, ι, F, ρ, m, d, sr, hr, dx, h2⟩))) fun v s1 ⟨x, H1, I1, rx, bs, G, ι, F, ρ, m, d, sr, hr, dx, h2⟩ => ?_)
  split at h2
  · rename_i c
    obtain ⟨t1, t2⟩ := ty_at g.gx I1 hr dx rx c (bm_nostr hb)
    refine ⟨bmT b, bmI b, pa, sl, ty, t1, t2, ?_⟩
    have hA := hp.run pos pins s1 σ H1 _ I1 ⟨bs, G, ι, F, ρ, m, sr, hr, (Pst.bind h2).imp fun xs H2 ⟨ι2, F2, ds, m2, e2, hr2, dxs, h3⟩ => (show (fun (xs : List V) H2 => ∃ ι2 F2 ds m2, Ext ι F ι2 F2 ∧ HR Γ base bs G ι2 F2 m2 H2 ∧ Dens Γ ι2 F2 ds xs ∧ Pst ⟨Γ, base, bs, G⟩ (Den Γ) ι2 F2 Q (fun cls d H' => W cls d σ H') (bmtD base b fz d ds m2)) xs H2 from ⟨ι2, F2, ds, m2, e2, hr2, dxs, h3⟩)⟩
    rw [List.all_cons, Bool.and_eq_true] at hst
    rw [star_cons hst.1] at hA ⊢
    refine Calls.callWith_builtin (by show (false || (backTo pos (starEach es X.env)).any (·.1)) = false; rw [(star_all hst.2 X.env pos).1]; rfl) (Calls.evalArgs_plain ?_)
    exact thn hA fun us s2 ⟨vs, H2, I2, r2, ι2, F2, ds, m2, e2, hr2, dxs, h3⟩ => mt_bmtZ g.gx b fz pins s2 σ H2 x vs v us Q I2 rx r2 ⟨bs, G, ι2, F2, m2, d, ds, _, hr2, dx.mono e2, dxs, h3⟩
  · exact h2.elim
end
end Zi
set_option maxHeartbeats 4000000
/-! Z7c: isinstance; making instances. -/
namespace Zi
open PySem PySem.Spec PyProof.Rows L2
theorem HR.more {Γ : Gl0} {base : Nat} {bs : List Nat} {G : Hp} {ι : List Addr} {F : Hp} {m : MH} {H : Hp} (R : HR Γ base bs G ι F m H) {p : Addr} {o : HO} (hp : H p = none) : HR Γ base bs G ι F m (upd H p o) where
  g := R.g.upd_none hp
  f := R.f.upd_none hp
  fg := R.fg
  len := R.len
  live := fun i a u h1 h2 => by
    obtain ⟨k1, k2, ho, k3, k4⟩ := R.live i a u h1 h2
    exact ⟨k1, k2, ho, by rw [upd_ne (fun q => by rw [q, hp] at k3; cases k3)]; exact k3, k4⟩
  uniq := R.uniq
  top := R.top
  bel := R.bel
section
variable {X : Cx} {Γ : Gl0} {P : ZP} {fa : String → Addr} {n : Nat} {N : List Str} {sc : Scope} {asg : Str → Bool} {cm : Bool} {base : Nat} {W : WX} {a b c e o : Expr} {es : List Expr} {pos apos p : Pos} {f f1 f2 f3 : Ev → MH → R D} {fs : Ev → MH → R (List D)}
theorem tyX_of {bs : List Nat} {G : Hp} {ι : List Addr} {F : Hp} {m : MH} {H : Hp} {x : V} {d : D} {t : String} {call : Nat → String → List D → MH → R D} {b0 : Nat} (g : GoodX Γ P fa n N sc asg cm X) (hr : HR Γ base bs G ι F m H) (dx : Den Γ ι F d x) (h : tyOf m d = some t) (hk : knownT (ecOf P b0 call).cls t = true) : TyX X.K H x (tyVal Γ t) := by
  have bt : ∀ {u : String}, tyNames.contains u = true → tyVal Γ u = .type u := fun h => if_pos h
  have lst : ∀ ds, getL m d = some ds → TyX X.K H x (.type "list") := fun ds e => by
    obtain ⟨a, vs, rfl, k, _⟩ := hr.getL e dx
    rw [g.gx.K] at k
    rcases k with (k | ⟨o, k⟩) | ⟨o, its, n, h1, h2, _⟩
    · exact .base (.lst k)
    · exact .base (.frz k)
    · exact .kList h1 h2
  have dct : ∀ kvs, getK m d = some (false, kvs) → TyX X.K H x (.type "dict") := fun kvs e => by
    obtain ⟨a, o, rfl, ha, hd⟩ := hr.getK e dx
    rcases hd with ⟨_, es, rfl, hd⟩ | ⟨z, _⟩
    · rcases ha with ha | ⟨o', ha⟩
      · exact .base (.dK ha)
      · exact .fDict ha
    · cases z
  have ins : ∀ k fs, getI m d = some (k, fs) → (if tyNames.contains k = true then none else some k) = some t → TyX X.K H x (tyVal Γ t) := fun k fs e et => by
    split at et
    · cases et
    rename_i nt
    cases et
    obtain ⟨a, dx', vs, rfl, hH, df⟩ := hr.getI e dx
    unfold knownT at hk
    rw [Bool.or_eq_true] at hk
    have hc : ∃ q, P.cls.lookup t = some q ∧ tyNames.contains t = false := by
      rcases hk with hk | hk
      · exact absurd hk nt
      · have hk' : (P.cls.lookup t).isSome = true := hk
        obtain ⟨q, q1⟩ := Option.isSome_iff_exists.mp hk'
        exact ⟨q, q1, (g.gf.cls t q q1).2.2⟩
    obtain ⟨q, q1, q2⟩ := hc
    obtain ⟨_, cf, _⟩ := g.gf.cls t q q1
    rw [g.gx.K] at cf
    have e2 : tyVal Γ t = .ref (Γ.ca t) := by unfold tyVal; rw [q2]; rfl
    rw [e2]
    exact .base (.ins hH cf.cl cf.ha cf.hn cf.htk cf.hm)
  cases d with
  | non => cases h; cases dx; exact .base .non
  | bl b => cases h; cases dx; exact .base (.bl b)
  | int i => cases h; cases dx; exact .base (.int i)
  | str z => cases h; cases dx; exact .base (.str z)
  | tup ds =>
    cases h
    obtain ⟨a, vs, rfl, k, _⟩ := dx
    have k := hr.f.seqT k
    rw [g.gx.K] at k
    rcases k with (k | ⟨o, k⟩) | ⟨o, its, n, h1, h2, _⟩
    · exact .base (.tup k)
    · exact .fTuple k
    · exact .kTuple h1 h2
  | lst ds => cases h; exact lst ds rfl
  | kls ds => cases h; exact lst ds rfl
  | dct t kvs => cases t with
    | false => cases h; exact dct kvs rfl
    | true => cases h
  | ins k fs => exact ins k fs rfl h
  | ref i =>
    have h' : (match m[i]? with
      | some (some (.lst _)) => some "list"
      | some (some (.dct false _)) => some "dict"
      | some (some (.ins c _)) => if tyNames.contains c = true then none else some c
      | _ => none) = some t := h
    split at h'
    · rename_i ds hm
      cases h'
      exact lst ds (getL_ref hm)
    · rename_i kvs hm
      cases h'
      refine dct kvs ?_
      show (match m[i]? with
        | some (some (.dct t kvs)) => some (t, kvs)
        | _ => none) = _
      rw [hm]
    · rename_i k fs hm
      refine ins k fs ?_ h'
      show (match m[i]? with
        | some (some (.ins c fs)) => some (c, fs)
        | _ => none) = _
      rw [hm]
    · cases h'
/-! ### isinstance -/
def tyVv (Γ : Gl0) (t : String) : V := if tyNames.contains t then .ty t else .ref (Γ.ca t)
theorem clsV_of (t : String) : ClsV (tyVv Γ t) (tyVal Γ t) := by
  unfold tyVv tyVal
  split
  · exact .ty t
  · exact .own _
theorem relV_ty (t : String) : RelV (tyVv Γ t) (tyVal Γ t) := by
  unfold tyVv tyVal
  split <;> rfl
/-- a type by its name -/
def tyNm (P : ZP) (sc : Scope) (t : String) (x : Str) : Bool := decide (x = Str.ofString t) && decide (sc.names.lookup x = some .globalImplicit) && !(x == ("__debug__" : Str)) && (["bool", "int", "str", "tuple", "list", "dict"].contains t || (P.cls.lookup t).isSome)
theorem boot_ty : ∀ t, ["bool", "int", "str", "tuple", "list", "dict"].contains t = true → tyNames.contains t = true ∧ t ∈ bltNames ∧ bootBuiltins (Str.ofString t) = some (.type t) ∧ Str.ofString t ≠ ("__name__" : Str) := by
  intro t h
  have h' : t = "bool" ∨ t = "int" ∨ t = "str" ∨ t = "tuple" ∨ t = "list" ∨ t = "dict" := by simpa using h
  rcases h' with rfl | rfl | rfl | rfl | rfl | rfl <;> exact ⟨by decide +kernel, by decide +kernel, by first | rfl | decide +kernel, by decide +kernel⟩
theorem pe_tyNm (g : GoodX Γ P fa n N sc asg cm X) {t : String} {x : Str} (h : tyNm P sc t x = true) : PE X (.Name x p) (tC (tyVv Γ t)) ∧ (tyNames.contains t = true ∨ ∃ q, P.cls.lookup t = some q) := by
  unfold tyNm at h
  rw [Bool.and_eq_true, Bool.and_eq_true, Bool.and_eq_true, decide_eq_true_eq, decide_eq_true_eq, Bool.or_eq_true] at h
  obtain ⟨⟨⟨rfl, hn⟩, hd⟩, h⟩ := h
  have hd' : (Str.ofString t == ("__debug__" : Str)) = false := by simpa using hd
  rcases h with h | h
  · obtain ⟨h1, h2, h3, h4⟩ := boot_ty t h
    have e : tyVv Γ t = .ty t := if_pos h1
    rw [e]
    exact ⟨pe_bltn (gl_of g hn) (g.gf.blt t h2) h3 rfl h4 hd', .inl h1⟩
  · obtain ⟨q, q1⟩ := Option.isSome_iff_exists.mp h
    obtain ⟨c1, c2, c3⟩ := g.gf.cls t q q1
    have e : tyVv Γ t = .ref (Γ.ca t) := by unfold tyVv; rw [c3]; rfl
    rw [e]
    exact ⟨pe_glob (gl_of g hn) c1 rfl hd', .inr ⟨q, q1⟩⟩
theorem isi_boot : bootBuiltins (Str.ofString "isinstance") = some (.builtin "isinstance") ∧ Str.ofString "isinstance" ≠ ("__name__" : Str) ∧ (Str.ofString "isinstance" == ("__debug__" : Str)) = false := ⟨by first | rfl | decide +kernel, by decide +kernel, by decide +kernel⟩
def isiD (cls : String → Bool) (sub : String → String → Bool) (x : D) (ts : List String) (m : MH) : R D := (ofO (tyOf m x) m).bind fun t m => if knownT cls t = true then .ok (.bl (isTy sub t ts)) m else .bad
theorem known_or {t : String} {call : Nat → String → List D → MH → R D} {b0 : Nat} (h : knownT (ecOf P b0 call).cls t = true) : tyNames.contains t = true ∨ ∃ q, P.cls.lookup t = some q := by
  unfold knownT at h
  rw [Bool.or_eq_true] at h
  exact h.imp id fun h => Option.isSome_iff_exists.mp h
theorem sub_same (t u : String) (call call' : Nat → String → List D → MH → R D) (b0 b1 : Nat) : (ecOf P b0 call).sub t u = (ecOf P b1 call').sub t u := rfl
theorem z_isi1 {t : String} {x : Str} {q : Pos} {call : Nat → String → List D → MH → R D} {b0 : Nat} (g : GoodX Γ P fa n N sc asg cm X) (h1 : PE X a (tE Γ base W f)) (hst : noStar a = true) (hn : sc.names.lookup (Str.ofString "isinstance") = some .globalImplicit) (ht : tyNm P sc t x = true) :
    PE X (.Call (.Name (Str.ofString "isinstance") p) [a, .Name x q] [] pos) (tE Γ base W fun ρ m => (f ρ m).bind fun x m => isiD (ecOf P b0 call).cls (ecOf P b0 call).sub x [t] m) := by
  obtain ⟨pt, kt⟩ := pe_tyNm (p := q) g ht
  obtain ⟨b1, b2, b3⟩ := isi_boot
  refine PE.imp (pe_callB call_isi (gl_of g hn) (g.gf.blt _ (by decide)) b1 (pa_cons h1 (pa_cons pt pa_nil rfl) (star_cons hst _ _)) b2 b3 (star_cons hst _ _) rfl) fun σ H Q h => ?_
  refine tZ_bind h fun bs G ι F ρ m v H1 d sr hr dx h2 => ?_
  unfold isiD at h2
  obtain ⟨u, e1, h3⟩ := Pst.ofO h2
  split at h3
  · rename_i kn
    have k := g.gf.kit u t (known_or kn) kt
    rw [g.gx.K] at k
    refine ⟨v, tyVv Γ t, tyVal Γ u, tyVal Γ t, _, rfl, clsV_of t, tyX_of g hr dx e1 kn, k, ?_⟩
    have e : isTy (ecOf P b0 call).sub u [t] = (u == t || (u == "bool" && t == "int") || (ecOf P 0 fun _ _ _ _ => .bad).sub u t) := by
      show (_ || false) = _
      rw [Bool.or_false]; rfl
    rw [e] at h3
    exact Pst.done hr h3 rfl
  · exact h3.elim
theorem kitAny_of (g : GoodX Γ P fa n N sc asg cm X) {u : String} (hu : tyNames.contains u = true ∨ ∃ q, P.cls.lookup u = some q) : ∀ ts : List String, (∀ t ∈ ts, tyNames.contains t = true ∨ ∃ q, P.cls.lookup t = some q) → PySem.W.kitAny X.K (tyVal Γ u) (ts.map (tyVal Γ)) = some (isTy (ecOf P 0 fun _ _ _ _ => .bad).sub u ts)
  | [], _ => kitAny_nil
  | t :: ts, h => by
    have k := g.gf.kit u t hu (h t List.mem_cons_self)
    rw [g.gx.K] at k
    refine kitAny_cons k (fun e => ?_) fun e => ?_
    · rw [kitAny_of g hu ts fun t ht => h t (List.mem_cons_of_mem _ ht)]
      show _ = some (_ || _)
      rw [e, Bool.false_or]
    · show (_ || _) = true
      rw [e, Bool.true_or]
theorem z_isiT {ts : List String} {xs : List Expr} {k : Nat} {tp : Pos} {call : Nat → String → List D → MH → R D} {b0 : Nat} (g : GoodX Γ P fa n N sc asg cm X) (h1 : PE X a (tE Γ base W f)) (hst : noStar a = true) (hn : sc.names.lookup (Str.ofString "isinstance") = some .globalImplicit)
    (hp : PA X xs (fun σ H Q => Q (ts.map (tyVv Γ)) H)) (hk : ∀ t ∈ ts, tyNames.contains t = true ∨ ∃ q, P.cls.lookup t = some q) (hl : ts.length ≤ 100) :
    PE X (.Call (.Name (Str.ofString "isinstance") p) [a, .Tuple xs k tp] [] pos) (tE Γ base W fun ρ m => (f ρ m).bind fun x m => isiD (ecOf P b0 call).cls (ecOf P b0 call).sub x ts m) := by
  obtain ⟨b1, b2, b3⟩ := isi_boot
  refine PE.imp (pe_callB call_isiT (gl_of g hn) (g.gf.blt _ (by decide)) b1 (pa_cons h1 (pa_cons (pe_tup hp) pa_nil rfl) (star_cons hst _ _)) b2 b3 (star_cons hst _ _) rfl) fun σ H Q h => ?_
  refine tZ_bind h fun bs G ι F ρ m v H1 d sr hr dx h2 => ?_
  unfold isiD at h2
  obtain ⟨u, e1, h3⟩ := Pst.ofO h2
  split at h3
  · rename_i kn
    refine ⟨by rw [List.length_map, sizeLine_eq]; omega, fun tp htp => ?_⟩
    have hr' := hr.more (o := .tup (ts.map (tyVv Γ))) htp
    have pc : ∀ ts : List String, Paired ClsV (ts.map (tyVv Γ)) (ts.map (tyVal Γ)) := fun ts => by
      induction ts with
      | nil => exact .nil
      | cons t ts ih => exact .cons (clsV_of t) ih
    refine ⟨v, tp, ts.map (tyVv Γ), tyVal Γ u, ts.map (tyVal Γ), _, rfl, upd_same, pc ts, tyX_of g hr' dx e1 kn, kitAny_of g (known_or kn) ts hk, ?_⟩
    have e : isTy (ecOf P b0 call).sub u ts = isTy (ecOf P 0 fun _ _ _ _ => .bad).sub u ts := rfl
    rw [e] at h3
    exact Pst.done hr' h3 rfl
  · exact h3.elim
end
end Zi
set_option maxHeartbeats 4000000
/-! Z7d: making instances. -/
namespace Zi
open PySem PySem.Spec PyProof.Rows L2
section
variable {X : Cx} {Γ : Gl0} {P : ZP} {fa : String → Addr} {n : Nat} {N : List Str} {sc : Scope} {asg : Str → Bool} {cm : Bool} {base : Nat} {W : WX} {a b c e o : Expr} {es : List Expr} {pos apos p : Pos} {f f1 f2 f3 : Ev → MH → R D} {fs : Ev → MH → R (List D)}
theorem frozen_top {bs : List Nat} {G : Hp} {ι : List Addr} {F : Hp} {m : MH} {H : Hp} (R : HR Γ base bs G ι F m H) : base ∈ bs ∧ ∀ x ∈ bs, x ≤ base ∧ x ≤ m.length ∧ x ∈ m.length :: bs :=
  ⟨R.top.1, fun x hx => ⟨(R.top.2 x hx).1, (R.top.2 x hx).2, List.mem_cons_of_mem _ hx⟩⟩
theorem HR.ctx {b0 : Nat} {bs : List Nat} {G : Hp} {ι ι1 : List Addr} {F F1 : Hp} {m m1 : MH} {H H1 : Hp} (R : HR Γ base bs G ι F m H) (R1 : HR Γ b0 (b0 :: bs) G ι1 F1 m1 H1) : HR Γ base bs G ι1 F1 m1 H1 := R.back R1
/-- C(..), by values -/
def mkD (n : Nat) (P : ZP) (fz : Bool) (init : String → Option String) (k : String) (xs : List D) (m : MH) : R D := match init k with
  | some g => (gcR m.length true (callF P n m.length g (.ref m.length :: xs) (m ++ [some (.ins k [])]))).bind (mkPost fz m.length)
  | none => .bad
theorem makeZ {pins : List (Addr × Obj)} {σ : L2.St} {H : Hp} {s : Shared} (g : GoodX Γ P fa n N sc asg true X) (tk : Takes X W) {bs : List Nat} {G : Hp} {ι : List Addr} {F : Hp} {m : MH} {Q : VK} {fz : Bool} {k gn : String} {q : ZCls} {ds : List D} {vs : List V} {us : List Value} (q1 : P.cls.lookup k = some q) (q2 : q.meths.lookup "__init__" = some gn) (I : Inv X pins σ H s) (R : HR Γ base bs G ι F m H) (x : Dens Γ ι F ds vs) (r : Vals vs us)
    (h : Pst ⟨Γ, base, bs, G⟩ (Den Γ) ι F Q (fun cls d H' => W cls d σ H') ((gcR m.length true (callF P n m.length gn (.ref m.length :: ds) (m ++ [some (.ins k [])]))).bind (mkPost fz m.length))) :
    wpAny (model X.prog X.w) X.A (call (.ref (Γ.ca k)) us) (EP X pins σ Q) X.xe s := by
  have M := g.gf.mkc k q gn q1 q2
  rw [g.gx.K] at M
  have hz : ∃ zf, P.funs.lookup gn = some zf := by
    cases n with
    | zero => exact h.elim
    | succ n =>
      unfold callF at h
      cases e : P.funs.lookup gn with
      | none => rw [e] at h; exact h.elim
      | some zf => exact ⟨zf, rfl⟩
  obtain ⟨zf, hz⟩ := hz
  have Fn := g.calls rfl gn zf hz
  have hr := g.room rfl
  -- the new instance
  let xa := s.heap.objs.size + 1
  have I2 := Inv.made (C := Γ.ca k) I
  have f1 : H s.heap.objs.size = none := I.hok.fresh (Nat.le_refl _)
  have f2 : (upd H s.heap.objs.size (.own xa)) xa = none := by rw [upd_ne (Nat.succ_ne_self _)]; exact I.hok.fresh (Nat.le_succ _)
  have R1 := R.enter.more (o := .own xa) f1
  have R2 : HR Γ m.length (m.length :: bs) G (ι ++ [xa]) F (m ++ [some (.ins k [])]) _ := R1.alloc (o := .ins (Γ.ca k) s.heap.objs.size []) (ob := .ins k []) f2 ⟨_, [], rfl, rfl⟩
  have ee : Ext ι F (ι ++ [xa]) F := Ext.push xa
  have self : Den Γ (ι ++ [xa]) F (.ref m.length) (.ref xa) := ⟨xa, rfl, by rw [← R.len]; simp⟩
  have dsx : Dens Γ (ι ++ [xa]) F (.ref m.length :: ds) (.ref xa :: vs) := .cons self (x.mono ee)
  -- what the def must leave
  have hcall : Pst ⟨Γ, m.length, m.length :: bs, G⟩ (Den Γ) (ι ++ [xa]) F (fun v H2 => v = .non ∧ ∃ L, Lks L H2 (Q (.ref xa))) (fun cls d H' => W cls d σ H') (callF P n m.length gn (.ref m.length :: ds) (m ++ [some (.ins k [])])) := by
    generalize callF P n m.length gn (.ref m.length :: ds) (m ++ [some (.ins k [])]) = rr at h
    cases rr with
    | bad => exact h.elim
    | exc c fs m' =>
      refine Pst.world ee (Pst.callee (Q := fun v H2 => v = .non ∧ ∃ L, Lks L H2 (Q (.ref xa))) (kp := true) (r := Zi.R.exc c fs m') R ?_)
      have h' : Pst ⟨Γ, base, bs, G⟩ (Den Γ) ι F Q (fun cls d H' => W cls d σ H') ((if belowF m.length fs = true then Zi.R.exc c fs (m'.take m.length) else Zi.R.bad).bind (mkPost fz m.length)) := h
      show Pst ⟨Γ, base, bs, G⟩ (Den Γ) ι F _ _ (if belowF m.length fs = true then Zi.R.exc c fs (m'.take m.length) else Zi.R.bad)
      split at h'
      · rename_i q; rw [if_pos q]; exact h'
      · exact h'.elim
    | ok d m' =>
      have h' : Pst ⟨Γ, base, bs, G⟩ (Den Γ) ι F Q (fun cls d H' => W cls d σ H') (mkPost fz m.length d m') := h
      intro v ι' F' H' e1 hr1 dv
      unfold mkPost at h'
      split at h'
      · refine ⟨dv, ?_⟩
        have ext : Ext ι F ι' F' := ee.trans e1
        have self' := self.mono e1
        split at h'
        · -- frozen
          refine ⟨_, lks_frozen hr1 m.length fun H2 z => ?_⟩
          have h'' : Pst ⟨Γ, base, bs, G⟩ (Den Γ) ι F Q (fun cls d H' => W cls d σ H') (match frzW (frzAt m.length m' 8) (.ref m.length) with
            | some d' => .ok d' (m'.take m.length)
            | none => .bad) := h'
          split at h''
          · rename_i d' ed
            obtain ⟨x1, x2⟩ := hr1.freeze (H' := H2) List.mem_cons_self z (frozen_top R)
            have x3 := Ext.cut R (ext.trans x1)
            exact h'' (.ref xa) _ _ H2 x3 x2 (frzAt_den hr1 z 8 m.length d' _ ed self')
          · exact h''.elim
        · exact ⟨[], h' (.ref xa) ι' F' H' ext (R.back hr1) self'⟩
      · exact h'.elim
  refine wpAny_call (make_map (f := fa gn) I.kIn M.makes M.init (beq_iff_eq.mp M.fn) (codeAny_mono (Fn _ X.stack _ _ (.ref xa :: us) (.ref xa :: vs) _ (WE W σ) ((hr.make (Γ.ca k) us []).mono (by omega)) (I2.env0.make (Γ.ca k) us []) (.cons rfl r)
    ⟨m.length, bs, G, ι ++ [xa], F, _, _, R2, dsx, .inr (g.gf.ini k q gn q1 q2), hcall⟩) fun r s' hq' => ?_))
  cases r with
  | error e => exact passAt tk σ pins _ _ e s' I2 hq'
  | ok fl =>
    cases fl with
    | ret u =>
      obtain ⟨v, H', I3, rv, ev, L, q3⟩ := I2.after hq'
      subst ev
      obtain ⟨H4, I4, q4⟩ := lks_run L H' I3 q3
      exact ⟨rv, ⟨V.ref xa, H4, I4, rfl, q4⟩⟩
    | next => exact False.elim hq'
    | brk => exact False.elim hq'
    | cont => exact False.elim hq'
theorem init_of {k g : String} {call : Nat → String → List D → MH → R D} {b0 : Nat} (h : (ecOf P b0 call).init k = some g) : ∃ q, P.cls.lookup k = some q ∧ q.meths.lookup "__init__" = some g := by
  obtain ⟨q, e1, e2⟩ := Option.bind_eq_some_iff.mp (show (P.cls.lookup k).bind (fun q => q.meths.lookup "__init__") = some g from h)
  exact ⟨q, e1, e2⟩
theorem z_mk {k : String} {fz : Bool} {call : Nat → String → List D → MH → R D} {b0 : Nat} (g : GoodX Γ P fa n N sc asg true X) (tk : Takes X W) (hc : (P.cls.lookup k).isSome = true) (hn : sc.names.lookup (Str.ofString k) = some .globalImplicit) (hd : (Str.ofString k == ("__debug__" : Str)) = false) (hi : ((ecOf P b0 call).init k).isSome = true) (hp : PA X (e :: es) (tA Γ base W fs)) (hst : (e :: es).all noStar = true) :
    PE X (.Call (.Name (Str.ofString k) p) (e :: es) [] pos) (tE Γ base W fun ρ m => (fs ρ m).bind fun xs m => mkD n P fz (ecOf P b0 call).init k xs m) := by
  obtain ⟨gn, hi⟩ := Option.isSome_iff_exists.mp hi
  obtain ⟨q, q1, q2⟩ := init_of hi
  obtain ⟨c1, _, _⟩ := g.gf.cls k q q1
  have M := g.gf.mkc k q gn q1 q2
  rw [g.gx.K] at M
  refine ⟨fun pins s σ H Q I h => ?_⟩
  refine wpAny_Call_Name_kw (ld_glob I (gl_of g hn) c1 ?_ hd)
  refine callW hp hst M.kp I (tZ_bind h fun bs G ι F ρ m x H1 d sr hr dx h2 => fun us s1 I1 r => ?_)
  unfold mkD at h2
  rw [hi] at h2
  exact makeZ g tk q1 q2 I1 hr dx r h2
theorem z_mk0 {k : String} {fz : Bool} {call : Nat → String → List D → MH → R D} {b0 : Nat} (g : GoodX Γ P fa n N sc asg true X) (tk : Takes X W) (hc : (P.cls.lookup k).isSome = true) (hn : sc.names.lookup (Str.ofString k) = some .globalImplicit) (hd : (Str.ofString k == ("__debug__" : Str)) = false) (hi : ((ecOf P b0 call).init k).isSome = true) :
    PE X (.Call (.Name (Str.ofString k) p) [] [] pos) (tE Γ base W fun ρ m => mkD n P fz (ecOf P b0 call).init k [] m) := by
  obtain ⟨gn, hi⟩ := Option.isSome_iff_exists.mp hi
  obtain ⟨q, q1, q2⟩ := init_of hi
  obtain ⟨c1, _, _⟩ := g.gf.cls k q q1
  have M := g.gf.mkc k q gn q1 q2
  rw [g.gx.K] at M
  refine ⟨fun pins s σ H Q I ⟨bs, G, ι, F, ρ, m, sr, hr, h⟩ => ?_⟩
  refine wpAny_Call_Name_kw (ld_glob I (gl_of g hn) c1 ?_ hd)
  refine PySem.W.callWith_K0 I.kIn M.kp ?_
  unfold mkD at h
  rw [hi] at h
  exact makeZ (us := []) (vs := []) g tk q1 q2 I hr Dens.nil .nil h
end
end Zi
set_option maxHeartbeats 4000000
/-! Z7e: own special methods. -/
namespace Zi
open PySem PySem.Spec PyProof.Rows L2
section
variable {X : Cx} {Γ : Gl0} {P : ZP} {fa : String → Addr} {n : Nat} {N : List Str} {sc : Scope} {asg : Str → Bool} {cm : Bool} {base : Nat} {W : WX} {a b c e o : Expr} {es : List Expr} {pos apos p : Pos} {f f1 f2 f3 : Ev → MH → R D} {fs : Ev → MH → R (List D)}
def ownD (meth : String → String → Option String) (x : D) (fn : String) (k : String → String → MH → R D) (m : MH) : R D := match getI m x with
  | some (c, fs) => match meth c fn, fs.lookup fn with
    | some g, none => k c g m
    | _, _ => .bad
  | none => .bad
theorem own_at {s : Shared} {pins : List (Addr × Obj)} {σ : L2.St} {H : Hp} {bs : List Nat} {G : Hp} {ι : List Addr} {F : Hp} {m : MH} {x : V} {v : Value} {d : D} {k : String} {fs : Fs} (g : GoodX Γ P fa n N sc asg cm X) (I : Inv X pins σ H s) (hr : HR Γ base bs G ι F m H) (dx : Den Γ ι F d x) (rx : RelV x v) (e : getI m d = some (k, fs)) :
    ∃ ad ox od, x = .ref ad ∧ v = .ref ad ∧ PySem.W.InstAt s.heap ad ox (Γ.ca k) od := by
  obtain ⟨ad, dx', vs, rfl, hH, df⟩ := hr.getI e dx
  cases rx
  obtain ⟨mA, O, _, _, _, _⟩ := ins_get I.hok hH
  obtain ⟨od, J, _⟩ := O.look
  exact ⟨ad, _, _, rfl, rfl, J⟩
theorem own_ready {s : Shared} {pins : List (Addr × Obj)} {σ : L2.St} {H : Hp} {bs : List Nat} {G : Hp} {ι : List Addr} {F : Hp} {m : MH} {x : V} {v : Value} {d : D} {k : String → String → MH → R D} {Q0 : VK} {E : XK} {fn : String} {call : Nat → String → List D → MH → R D} {b0 : Nat} (g : GoodX Γ P fa n N sc asg cm X) (I : Inv X pins σ H s) (hr : HR Γ base bs G ι F m H) (dx : Den Γ ι F d x) (rx : RelV x v)
    (h : Pst ⟨Γ, base, bs, G⟩ (Den Γ) ι F Q0 E (ownD (ecOf P b0 call).meth d fn k m)) :
    ∃ c gn ad ox od, x = .ref ad ∧ v = .ref ad ∧ PySem.W.InstAt s.heap ad ox (Γ.ca c) od ∧ ClF X.K (Γ.ca c) ∧ Meth X.K (Γ.ca c) (Str.ofString fn) (fa gn) ∧ Pst ⟨Γ, base, bs, G⟩ (Den Γ) ι F Q0 E (k c gn m) := by
  unfold ownD at h
  split at h
  · rename_i c fs e
    split at h
    · rename_i gn e1 e2
      obtain ⟨qc, q1, q2⟩ := meth_of e1
      obtain ⟨_, cf, _⟩ := g.gf.cls c qc q1
      have mt := g.gf.mth c qc fn gn q1 q2
      rw [g.gx.K] at cf mt
      obtain ⟨ad, ox, od, h1, h2, J⟩ := own_at g I hr dx rx e
      exact ⟨c, gn, ad, ox, od, h1, h2, J, cf, mt, h⟩
    · exact h.elim
  · exact h.elim
theorem Pst.unNox {α β : Type} {C : Ct} {rel : List Addr → Hp → α → β → Prop} {ι : List Addr} {F : Hp} {Q : β → Hp → Prop} {E E' : XK} {r : R α} (h : Pst C rel ι F Q E r.nox) : Pst C rel ι F Q E' r := by
  cases r with
  | ok d m' => exact h
  | exc c fs m' => exact h.elim
  | bad => exact h
/-- the call itself, at once or one deeper -/
theorem own_call {s : Shared} {pins : List (Addr × Obj)} {σ : L2.St} {H : Hp} {A : Around} {bs : List Nat} {G : Hp} {ι : List Addr} {F : Hp} {m : MH} {kp : Bool} {fn gn : String} {ds : List D} {vs : List V} {us : List Value} {Q : VK} {E : XK} (g : GoodX Γ P fa n N sc asg true X) (hA : A = X.A ∨ A = X.A.in1 ∨ A = X.A.in1.in1) (I : Inv X pins σ H s) (R : HR Γ base bs G ι F m H) (x : Dens Γ ι F ds vs) (r : Vals vs us)
    (h : Pst ⟨Γ, base, bs, G⟩ (Den Γ) ι F Q E (((gcR m.length kp (callF P n m.length gn ds m)).nox).bind (ownPost fn))) :
    wpAny (model X.prog X.w) A (call (.ref (fa gn)) us) (fun v s' => ∃ y H', Inv X pins σ H' s' ∧ RelV y v ∧ ∃ ι1 F1 d m1, HR Γ base bs G ι1 F1 m1 H' ∧ Den Γ ι1 F1 d y ∧ Pst ⟨Γ, base, bs, G⟩ (Den Γ) ι1 F1 Q E (ownPost fn d m1)) X.xe s := by
  have h1 := Pst.unNox (E' := fun cls d H' => (fun _ _ _ _ => False : WX) cls d σ H') (Pst.bind (rel := Den Γ) h)
  have h2 := Pst.callee R h1
  have hz : ∃ zf, P.funs.lookup gn = some zf := by
    cases n with
    | zero => exact (Pst.bad h2).elim
    | succ n =>
      unfold callF at h2
      cases e : P.funs.lookup gn with
      | none => rw [e] at h2; exact (Pst.bad h2).elim
      | some zf => exact ⟨zf, rfl⟩
  obtain ⟨zf, hz⟩ := hz
  have Fn := g.calls rfl gn zf hz
  have hr := g.room rfl
  let Q1 : VK := fun x H1 => ∃ ι1 F1 d m1, Ext ι F ι1 F1 ∧ HR Γ base bs G ι1 F1 m1 H1 ∧ Den Γ ι1 F1 d x ∧ Pst ⟨Γ, base, bs, G⟩ (Den Γ) ι1 F1 Q E (ownPost fn d m1)
  have run : codeAny (model X.prog X.w) A (.call (.ref (fa gn)) ⟨us, []⟩) (CR (L2.CX X.prog X.w) X.stack X.prog X.w H s Q1 (WE (fun _ _ _ _ => False) σ)) s := by
    rcases hA with rfl | rfl | rfl
    · exact Fn X.A X.stack s H us vs _ _ (hr.mono (by omega)) I.env0 r ⟨m.length, bs, G, ι, F, m, ds, R.enter, x, .inl (Nat.le_refl _), h2⟩
    · exact Fn X.A.in1 X.stack s H us vs _ _ (hr.in1.mono (by omega)) I.env0.in1 r ⟨m.length, bs, G, ι, F, m, ds, R.enter, x, .inl (Nat.le_refl _), h2⟩
    · exact Fn X.A.in1.in1 X.stack s H us vs _ _ hr.in1.in1 I.env0.in1.in1 r ⟨m.length, bs, G, ι, F, m, ds, R.enter, x, .inl (Nat.le_refl _), h2⟩
  refine wpAny_call (codeAny_mono run fun r s' hq => ?_)
  cases r with
  | error e => exact (passAt takes_none5 σ) pins H s e s' I hq
  | ok fl => cases fl with
    | ret v =>
      obtain ⟨y, H', I', ry, q⟩ := I.after hq
      obtain ⟨ι1, F1, d, m1, e1, hr1, dy, q1⟩ := q
      exact ⟨y, H', I', ry, ι1, F1, d, m1, hr1, dy, q1⟩
    | _ => exact hq
/-- an own __bool__ -/
def r1Own (Γ : Gl0) (P : ZP) (n base : Nat) (kp : Bool) (fn : String) (meth : String → String → Option String) : V → Hp → VK → Prop := fun x H Q => ∃ bs G ι F m d E, HR Γ base bs G ι F m H ∧ Den Γ ι F d x ∧ Pst ⟨Γ, base, bs, G⟩ (Den Γ) ι F Q E (ownD meth d fn (fun _ gn m => ((gcR m.length kp (callF P n m.length gn [d] m)).nox).bind (ownPost fn)) m)
theorem tru_ownZ {kp : Bool} {call : Nat → String → List D → MH → R D} {b0 : Nat} {A : Around} (g : GoodX Γ P fa n N sc asg true X) (hA : A = X.A ∨ A = X.A.in1 ∨ A = X.A.in1.in1) {pins : List (Addr × Obj)} {s : Shared} {σ : L2.St} {H : Hp} {x : V} {v : Value} {Q : VK} (I : Inv X pins σ H s) (rx : RelV x v) (h : r1Own Γ P n base kp "__bool__" (ecOf P b0 call).meth x H Q) :
    wpAny (model X.prog X.w) A (truthy v) (fun k s' => ∃ H', Inv X pins σ H' s' ∧ Q (.bl k) H') X.xe s := by
  obtain ⟨bs, G, ι, F, m, d, E, hr, dx, h⟩ := h
  obtain ⟨c, gn, ad, ox, od, rfl, rfl, J, cf, mt, h⟩ := own_ready g I hr dx rx h
  unfold truthy
  refine wpAny_bind (m := callSpecial? (.ref ad) (Str.ofString "__bool__")) (PySem.W.special_fn I.kIn J mt.at_ (beq_iff_eq.mp mt.fn) (wpAny_mono (own_call g hA I hr (Dens.one dx) (.cons rfl .nil) h) (fun v s' hv => ?_) fun _ _ y => y))
  obtain ⟨y, H', I', ry, ι1, F1, d1, m1, hr1, dy, q⟩ := hv
  unfold ownPost at q
  rw [if_pos rfl] at q
  split at q
  · cases dy
    cases ry
    exact wpAny_pure ⟨H', I', Pst.done hr1 q rfl⟩
  · exact q.elim
theorem truR_own {kp : Bool} {call : Nat → String → List D → MH → R D} {b0 : Nat} (g : GoodX Γ P fa n N sc asg true X) : TruR X (fun x H Q => r1Own Γ P n base kp "__bool__" (ecOf P b0 call).meth x H (fun y H' => ∃ k, y = .bl k ∧ Q k H')) := by
  intro pins s σ H x v Q I rx h
  refine wpAny_mono (tru_ownZ g (.inl rfl) I rx h) (fun k s' hk => ?_) fun _ _ e => e
  obtain ⟨H', I', k', e, q⟩ := hk
  cases e
  exact ⟨H', I', q⟩
/-- a reading by an own special method of no argument -/
def own0 (f : Ev → MH → R D) (meth : String → String → Option String) (fn : String) (k : D → String → String → MH → R D) : Ev → MH → R D := fun ρ m => (f ρ m).bind fun x m => ownD meth x fn (k x) m
def kOwn0 (P : ZP) (n : Nat) (kp : Bool) (fn : String) : D → String → String → MH → R D := fun x _ gn m => ((gcR m.length kp (callF P n m.length gn [x] m)).nox).bind (ownPost fn)
theorem own0_r {kp : Bool} {fn : String} {meth : String → String → Option String} {σ : L2.St} {H : Hp} {Q : VK} (h : tE Γ base W (own0 f meth fn (kOwn0 P n kp fn)) σ H Q) : tE Γ base W f σ H fun x H1 => r1Own Γ P n base kp fn meth x H1 Q :=
  tZ_bind h fun bs G ι F ρ m x H1 d sr hr dx h2 => ⟨bs, G, ι, F, m, d, _, hr, dx, h2⟩
theorem post_bl {r : R D} {d : D} {m' : MH} (h : r.bind (ownPost "__bool__") = .ok d m') : ∃ b, d = .bl b := by
  cases r with
  | ok x m =>
    have h' : ownPost "__bool__" x m = .ok d m' := h
    unfold ownPost at h'
    rw [if_pos rfl] at h'
    split at h'
    · cases h'; exact ⟨_, rfl⟩
    · cases h'
  | exc c fs m => cases h
  | bad => cases h
theorem own0_bl {kp : Bool} {meth : String → String → Option String} {ρ : Ev} {m m' : MH} {d : D} (h : own0 f meth "__bool__" (kOwn0 P n kp "__bool__") ρ m = .ok d m') : ∃ b, d = .bl b := by
  unfold own0 at h
  cases e : f ρ m with
  | ok x m1 =>
    rw [e] at h
    have h' : ownD meth x "__bool__" (kOwn0 P n kp "__bool__" x) m1 = .ok d m' := h
    unfold ownD at h'
    split at h'
    · split at h'
      · exact post_bl h'
      · cases h'
    · cases h'
  | exc c fs m1 => rw [e] at h; cases h
  | bad => rw [e] at h; cases h
/-- as a test -/
theorem zt_own {kp : Bool} {call : Nat → String → List D → MH → R D} {b0 : Nat} (g : GoodX Γ P fa n N sc asg true X) (hp : plainT o = true) (h1 : PE X o (tE Γ base W f)) :
    PT X o (tT Γ base W (tst (own0 f (ecOf P b0 call).meth "__bool__" (kOwn0 P n kp "__bool__")))) := by
  refine PT.imp (pt_truthR h1 (truR_own (base := base) (kp := kp) (b0 := b0) (call := call) g) (true_plain hp X.env)) fun σ H Q h => ?_
  refine own0_r (W := W) (f := f) ?_
  obtain ⟨bs, G, ι, F, ρ, m, sr, hr, h⟩ := h
  refine ⟨bs, G, ι, F, ρ, m, sr, hr, ?_⟩
  unfold tst at h
  cases e : own0 f (ecOf P b0 call).meth "__bool__" (kOwn0 P n kp "__bool__") ρ m with
  | ok d m' =>
    rw [e] at h
    obtain ⟨b, rfl⟩ := own0_bl e
    intro v ι' F' H' ex hr' dv
    exact ⟨b, dv, h b ι' F' H' ex hr' rfl⟩
  | exc c fs m' => rw [e] at h; exact h
  | bad => rw [e] at h; exact h
/-- not o -/
theorem z_nown {kp : Bool} {call : Nat → String → List D → MH → R D} {b0 : Nat} (g : GoodX Γ P fa n N sc asg true X) (h1 : PE X o (tE Γ base W f)) :
    PE X (.UnaryOp .Not o pos) (tE Γ base W fun ρ m => (own0 f (ecOf P b0 call).meth "__bool__" (kOwn0 P n kp "__bool__") ρ m).bind fun x m => (ofO (truth m x) m).bind fun k m => .ok (.bl (!k)) m) := by
  refine ⟨fun pins s σ H Q I h => ?_⟩
  have h' : tE Γ base W (own0 f (ecOf P b0 call).meth "__bool__" (kOwn0 P n kp "__bool__")) σ H (fun y H' => ∃ k, y = .bl k ∧ Q (.bl (!k)) H') := by
    obtain ⟨bs, G, ι, F, ρ, m, sr, hr, h⟩ := h
    refine ⟨bs, G, ι, F, ρ, m, sr, hr, ?_⟩
    dsimp only at h
    cases e : own0 f (ecOf P b0 call).meth "__bool__" (kOwn0 P n kp "__bool__") ρ m with
    | ok d m' =>
      rw [e] at h
      obtain ⟨b, rfl⟩ := own0_bl e
      intro v ι' F' H' ex hr' dv
      exact ⟨b, dv, h (.bl (!b)) ι' F' H' ex hr' rfl⟩
    | exc c fs m' => rw [e] at h; exact h
    | bad => rw [e] at h; exact h
  refine UnaryOp_ (thn (h1.run pins s σ H _ I (own0_r h')) fun v s1 ⟨x, H1, I1, r1, q1⟩ => ?_)
  refine not_of (thn (tru_ownZ g (.inl rfl) I1 r1 q1) fun k s2 ⟨H2, I2, k', e, q2⟩ => ?_)
  cases e
  exact ⟨.bl (!k), H2, I2, rfl, q2⟩
theorem call_boolOwn {kp : Bool} {call : Nat → String → List D → MH → R D} {b0 : Nat} (g : GoodX Γ P fa n N sc asg true X) : CallR X (.type "bool") (fun xs H Q => ∃ x, xs = [x] ∧ r1Own Γ P n base kp "__bool__" (ecOf P b0 call).meth x H Q) := by
  intro pins s σ H xs us Q I r ⟨x, ex, h⟩
  subst ex
  obtain ⟨v, rfl, rx⟩ := vals1 r
  refine callType_codes (Q₁ := fun obj s₁ => ∃ k H', obj = .bool k ∧ Inv X pins σ H' s₁ ∧ Q (.bl k) H') PySem.F.called_bool (PySem.F.typeCall_bool_1 v) PySem.F.entry_object_init ?_ ?_
  · refine codeAny_call_builtin PySem.F.called_bool.plain PySem.F.entry_bool_new (wpAny_of_eq (PySem.F.newCall_bool_1 v) ?_)
    have tr := tru_ownZ (A := X.A.in1.in1) g (.inr (.inr rfl)) I rx h
    unfold Builtin.«bool.__new__»
    show wpAny _ X.A.in1.in1 (isType (.type "bool") >>= _) _ _ s
    refine wpAny_bind (wpAny_of_eq (a := true) rfl ?_)
    refine wpAny_bind (wpAny_of_eq (a := true) PySem.F.conv_sub_bool ?_)
    show wpAny _ X.A.in1.in1 (truthy v >>= fun k => ret (.bool k)) _ _ s
    refine wpAny_bind (wpAny_mono tr (fun k s' hk => ?_) fun _ _ e => e)
    obtain ⟨H', I', q⟩ := hk
    exact wpAny_pure ⟨k, H', rfl, I', q⟩
  · rintro obj s₁ ⟨k, H', rfl, I', q⟩
    refine ⟨rfl, PySem.F.args_object_init_2 _ _, ?_⟩
    exact (object_init_meets PySem.F.called_bool.init.lookup PySem.F.called_bool.made PySem.F.newNe_bool) X.prog X.w X.A.in1 _ s₁ ⟨rfl, rfl, ⟨.bl k, H', I', rfl, q⟩⟩
/-- bool(o) -/
theorem z_bown {kp : Bool} {call : Nat → String → List D → MH → R D} {b0 : Nat} (g : GoodX Γ P fa n N sc asg true X) (hn : sc.names.lookup (Str.ofString "bool") = some .globalImplicit) (hst : noStar o = true) (h1 : PE X o (tE Γ base W f)) :
    PE X (.Call (.Name (Str.ofString "bool") p) [o] [] pos) (tE Γ base W (own0 f (ecOf P b0 call).meth "__bool__" (kOwn0 P n kp "__bool__"))) := by
  have hm := g.gf.blt "bool" (by decide)
  have hv := bltN_boot .bool (by decide)
  obtain ⟨n1, n2⟩ := bltN_ok .bool
  refine PE.imp (pe_callTy (call_boolOwn (base := base) (kp := kp) (call := call) (b0 := b0) g) (gl_of g hn) hm hv (pa_cons h1 pa_nil (star_cons hst [] X.env)) n1 n2 (star_cons hst [] X.env) (star_all (es := []) rfl X.env pos).1) fun σ H Q h => ?_
  have h2 := own0_r (W := W) (f := f) h
  obtain ⟨bs, G, ι, F, ρ, m, sr, hr, h2⟩ := h2
  exact ⟨bs, G, ι, F, ρ, m, sr, hr, h2.imp fun x H1 q => ⟨x, rfl, q⟩⟩
/-! ### an own + -/
def kOwnA (P : ZP) (n : Nat) (kp : Bool) (fn : String) (f2 : Ev → MH → R D) (ρ : Ev) : D → String → String → MH → R D := fun x k gn m => (f2 ρ m).bind fun y m => if ownPre fn k x [y] m = true then ((gcR m.length kp (callF P n m.length gn [x, y] m)).nox).bind (ownPost fn) else .bad
theorem pre_add {k : String} {x : D} {ys : List D} {m : MH} (h : ownPre "__add__" k x ys m = true) : ∃ y f1 f2, ys = [y] ∧ getI m x = some (k, f1) ∧ getI m y = some (k, f2) := by
  unfold ownPre at h
  rw [if_pos rfl] at h
  split at h
  · rename_i y
    split at h
    · rename_i k1 f1 k2 f2 e1 e2
      simp only [Bool.and_eq_true, beq_iff_eq] at h
      obtain ⟨rfl, rfl⟩ := h
      exact ⟨y, f1, f2, rfl, e1, e2⟩
    · cases h
  · cases h
theorem binop_Z {prog : Program} {w : World} {A : Around} {E : Value → Shared → Prop} {s : Shared} {K : PySem.W.Frag} {x C f : Addr} {ox : Obj} {od : Option Obj} {op : Operator} {b : Value} {Q : Value → Shared → Prop} (XK : K.In s.heap) (I : PySem.W.InstAt s.heap x ox C od) (hb : PySem.W.Looks (model prog w) s.heap (typeOf b) (.ref C)) (hc : PySem.W.selfFirst K C = true)
    (hs : PySem.W.findIn K (.ref C) (PySem.dunder op.info.2) = some (some (.ref f))) (hf : PySem.W.isFn K (.ref f) = true)
    (h : wpAny (model prog w) A (call (.ref f) [.ref x, b]) (PySem.W.CmpBack Q) E s) : wpAny (model prog w) A (binaryOp op (.ref x) b) Q E s := by
  obtain ⟨cd, hcd, hm⟩ := PySem.W.any_some hc
  obtain ⟨rest, hm⟩ : ∃ rest, cd.mro = .ref C :: rest := by
    cases q : cd.mro with
    | nil => rw [q] at hm; cases hm
    | cons a r => rw [q] at hm; exact ⟨r, by rw [List.head?_cons] at hm; cases (beq_iff_eq.mp hm); rfl⟩
  unfold binaryOp
  refine wpAny_holding (wpAny_bind ?_)
  unfold binaryOp1
  refine wpAny_bind (I.type.here (wpAny_bind (hb.here (wpAny_bind ((PySem.W.fills_K XK hcd hm hs).here ?_)))))
  simp only [beq_self_eq_true, if_true]
  refine wpAny_bind (wpAny_pure ?_)
  simp only [Bool.and_false, Bool.false_eq_true, if_false, Bool.false_and]
  refine wpAny_bind (wpAny_pure ?_)
  simp only [Bool.false_eq_true, if_false]
  refine wpAny_bind (m := tryMethod (.ref x) _ b) ?_
  unfold tryMethod
  refine wpAny_bind (PySem.W.special_fn XK I hs (beq_iff_eq.mp hf) (wpAny_mono h (fun v s' hv => ?_) fun _ _ e => e))
  cases v <;> first | exact hv.elim | exact wpAny_pure (wpAny_pure (wpAny_pure hv))
theorem cmpBack {Q : Value → Shared → Prop} {v : Value} {y : V} {s : Shared} (r : RelV y v) (q : Q v s) : PySem.W.CmpBack Q v s := by
  cases y <;> (first | (cases r; exact q) | (obtain ⟨t, rfl⟩ := r; exact q) | (have r' := r; cases v <;> first | exact q | exact (nomatch r')))
theorem z_aown {kp : Bool} {call : Nat → String → List D → MH → R D} {b0 : Nat} (g : GoodX Γ P fa n N sc asg true X) (h1 : PE X a (tE Γ base W f1)) (h2 : PE X b (tE Γ base W f2)) :
    PE X (.BinOp a .Add b pos) (tE Γ base W fun ρ m => (f1 ρ m).bind fun x m => ownD (ecOf P b0 call).meth x "__add__" (kOwnA P n kp "__add__" f2 ρ x) m) := by
  refine ⟨fun pins s σ H Q I h => ?_⟩
  refine wpAny_BinOp (thn (h1.run pins s σ H _ I (tZ_bind h fun bs G ι F ρ m x H1 d sr hr dx h2 => (show (fun (x : V) H1 => ∃ bs G ι F ρ m d, SR Γ ι F ρ σ ∧ HR Γ base bs G ι F m H1 ∧ Den Γ ι F d x ∧ Pst ⟨Γ, base, bs, G⟩ (Den Γ) ι F Q (fun cls d H' => W cls d σ H') (ownD (ecOf P b0 call).meth d "__add__" (kOwnA P n kp "__add__" f2 ρ d) m)) x H1 from ⟨bs, G, ι, F, ρ, m, d, sr, hr, dx, h2⟩))) fun v s1 ⟨x, H1, I1, rx, bs, G, ι, F, ρ, m, d, sr, hr, dx, h3⟩ => ?_)
  obtain ⟨c, gn, ad, ox, od, rfl, rfl, J, cf, mt, h3⟩ := own_ready g I1 hr dx rx h3
  have hB : tE Γ base W f2 σ H1 (fun (y : V) H2 => ∃ ι2 F2 dy m2, HR Γ base bs G ι2 F2 m2 H2 ∧ Den Γ ι2 F2 d (.ref ad) ∧ Den Γ ι2 F2 dy y ∧ Pst ⟨Γ, base, bs, G⟩ (Den Γ) ι2 F2 Q (fun cls d H' => W cls d σ H') (if ownPre "__add__" c d [dy] m2 = true then ((gcR m2.length kp (callF P n m2.length gn [d, dy] m2)).nox).bind (ownPost "__add__") else .bad)) :=
    ⟨bs, G, ι, F, ρ, m, sr, hr, (Pst.bind (rel := Den Γ) h3).imp fun y H2 ⟨ι2, F2, dy, m2, e2, hr2, dyx, h4⟩ => ⟨ι2, F2, dy, m2, hr2, dx.mono e2, dyx, h4⟩⟩
  refine thn (h2.run pins s1 σ H1 _ I1 hB) fun u s2 hz => ?_
  obtain ⟨y, H2, I2, ry, ι2, F2, dy, m2, hr2, dx2, dyx, h4⟩ := hz
  split at h4
  · rename_i pr
    obtain ⟨y', f1', f2', ey, g1, g2⟩ := pre_add pr
    cases ey
    obtain ⟨ad1, ox1, od1, e1, _, J1⟩ := own_at g I2 hr2 dx2 (show RelV (.ref ad) (.ref ad) from rfl) g1
    cases e1
    obtain ⟨ad2, ox2, od2, rfl, rfl, J2⟩ := own_at g I2 hr2 dyx ry g2
    refine binop_Z (op := .Add) I2.kIn J1 J2.type cf.sf mt.at_ mt.fn ?_
    refine wpAny_mono (own_call g (.inl rfl) I2 hr2 (.cons dx2 (Dens.one dyx)) (.cons rfl (.cons rfl .nil)) h4) (fun v s' hv => ?_) fun _ _ e => e
    obtain ⟨z, H', I', rz, ι3, F3, d3, m3, hr3, dz, q⟩ := hv
    have q' : Pst ⟨Γ, base, bs, G⟩ (Den Γ) ι3 F3 Q (fun cls d H' => W cls d σ H') (.ok d3 m3) := by
      unfold ownPost at q
      rw [if_neg (by decide), if_neg (by decide)] at q
      exact q
    exact cmpBack rz ⟨z, H', I', rz, Pst.done hr3 q' dz⟩
  · exact h4.elim
end
end Zi
set_option maxHeartbeats 4000000
/-! Z8: targets and statements. -/
namespace Zi
open PySem PySem.Spec PyProof.Rows L2
theorem PGs.imp {X : Cx} {ts : List Expr} {t t' : TGs} (h : PGs X ts t) (k : ∀ v σ H Q, t' v σ H Q → t v σ H Q) : PGs X ts t' := ⟨fun pins s σ H v u Q I r w => h.run pins s σ H v u Q I r (k v σ H Q w)⟩
abbrev relS (Γ : Gl0) : List Addr → Hp → Ev → L2.St → Prop := fun ι F ρ σ => SR Γ ι F ρ σ
/-- a target's reading by the model -/
def tG (Γ : Gl0) (base : Nat) (W : WX) (g : D → Ev → MH → R Ev) : TG := fun v σ H Q => ∃ bs G ι F ρ m d, SR Γ ι F ρ σ ∧ HR Γ base bs G ι F m H ∧ Den Γ ι F d v ∧ Pst ⟨Γ, base, bs, G⟩ (relS Γ) ι F Q (fun cls d H' => W cls d σ H') (g d ρ m)
/-- .. of names alone, by which nothing is raised -/
def tGs (Γ : Gl0) (base : Nat) (g : List D → Ev → MH → R Ev) : TGs := fun vs σ H Q => ∃ bs G ι F ρ m ds, SR Γ ι F ρ σ ∧ HR Γ base bs G ι F m H ∧ Dens Γ ι F ds vs ∧ Pst ⟨Γ, base, bs, G⟩ (relS Γ) ι F Q (fun _ _ _ => False) (g ds ρ m)
def PstS (C : Ct) (ι : List Addr) (F : Hp) (D : Ends) (W : WX) : RS → Prop
  | .ok (.nx ρ') m' => ∀ σ' ι' F' H', Ext ι F ι' F' → HR C.Γ C.base C.bs C.G ι' F' m' H' → SR C.Γ ι' F' ρ' σ' → D.nx σ' H'
  | .ok (.bk ρ') m' => ∀ σ' ι' F' H', Ext ι F ι' F' → HR C.Γ C.base C.bs C.G ι' F' m' H' → SR C.Γ ι' F' ρ' σ' → D.bk σ' H'
  | .ok (.ct ρ') m' => ∀ σ' ι' F' H', Ext ι F ι' F' → HR C.Γ C.base C.bs C.G ι' F' m' H' → SR C.Γ ι' F' ρ' σ' → D.ct σ' H'
  | .ok (.rt d) m' => ∀ v ι' F' H', Ext (ι.take C.base) F ι' F' → HR C.Γ C.base C.bs C.G ι' F' m' H' → Den C.Γ ι' F' d v → D.rt v H'
  | .exc c fs ρ' m' => ∀ σ' ι' F' H' cls d, Ext ι F ι' F' → HR C.Γ C.base C.bs C.G ι' F' m' H' → SR C.Γ ι' F' ρ' σ' → XD C.Γ ι' F' c fs cls d H' → W cls d σ' H'
  | .bad => False
def tSZ (Γ : Gl0) (base : Nat) (W : WX) (g : Ev → MH → RS) : TS := fun D σ H => ∃ bs G ι F ρ m, SR Γ ι F ρ σ ∧ HR Γ base bs G ι F m H ∧ PstS ⟨Γ, base, bs, G⟩ ι F D W (g ρ m)
theorem Pst.ofNox {α β : Type} {C : Ct} {rel : List Addr → Hp → α → β → Prop} {ι : List Addr} {F : Hp} {Q : β → Hp → Prop} {E E' : XK} {r : R α} (h : Pst C rel ι F Q E r.nox) : Pst C rel ι F Q E' r := by
  cases r with
  | ok d m' => exact h
  | exc c fs m' => exact h.elim
  | bad => exact h
section
variable {Γ : Gl0} {base : Nat} {bs : List Nat} {G : Hp} {ι ι1 : List Addr} {F F1 : Hp} {m : MH} {H : Hp} {D : Ends} {W : WX} {r : RS}
theorem Ext.takeL {n : Nat} (e : Ext ι F ι1 F1) (h : n ≤ ι.length) : Ext (ι.take n) F (ι1.take n) F1 := by
  obtain ⟨t, rfl⟩ := e.pre
  refine ⟨⟨[], ?_⟩, e.sub⟩
  rw [List.take_append_of_le_length h]; simp
theorem Ext.ofTake {n : Nat} (ι : List Addr) (F : Hp) : Ext (ι.take n) F ι F := ⟨⟨ι.drop n, (List.take_append_drop n ι).symm⟩, Sub.refl F⟩
theorem HR.baseLe (R : HR Γ base bs G ι F m H) : base ≤ ι.length := by
  rw [R.len]; exact (R.top.2 base R.top.1).2
theorem PstS.world (e : Ext ι F ι1 F1) (hb : base ≤ ι.length) (h : PstS ⟨Γ, base, bs, G⟩ ι F D W r) : PstS ⟨Γ, base, bs, G⟩ ι1 F1 D W r := by
  cases r with
  | ok f m' => cases f with
    | nx ρ' => exact fun σ' ι' F' H' e1 => h σ' ι' F' H' (e.trans e1)
    | bk ρ' => exact fun σ' ι' F' H' e1 => h σ' ι' F' H' (e.trans e1)
    | ct ρ' => exact fun σ' ι' F' H' e1 => h σ' ι' F' H' (e.trans e1)
    | rt d => exact fun v ι' F' H' e1 => h v ι' F' H' ((e.takeL hb).trans e1)
  | exc c fs ρ' m' => exact fun σ' ι' F' H' cls d e1 => h σ' ι' F' H' cls d (e.trans e1)
  | bad => exact h
/-- behind an expression -/
theorem PstS.st {α β : Type} {rel : List Addr → Hp → α → β → Prop} {ρ : Ev} {σ : L2.St} {g : R α} {f : α → MH → RS} (hb : base ≤ ι.length) (sr : SR Γ ι F ρ σ) (h : PstS ⟨Γ, base, bs, G⟩ ι F D W (g.st ρ f)) :
    Pst ⟨Γ, base, bs, G⟩ rel ι F (fun x H1 => ∃ ι1 F1 d m1, Ext ι F ι1 F1 ∧ HR Γ base bs G ι1 F1 m1 H1 ∧ rel ι1 F1 d x ∧ SR Γ ι1 F1 ρ σ ∧ PstS ⟨Γ, base, bs, G⟩ ι1 F1 D W (f d m1)) (fun cls d H' => W cls d σ H') g := by
  cases g with
  | ok d m' => exact fun v ι' F' H' e1 hr x => ⟨ι', F', d, m', e1, hr, x, sr.mono e1, PstS.world e1 hb h⟩
  | exc c fs m' => exact fun ι' F' H' cls d e1 hr x => h σ ι' F' H' cls d e1 hr (sr.mono e1) x
  | bad => exact h
theorem PstS.nx {ρ : Ev} {σ : L2.St} (hr : HR Γ base bs G ι F m H) (sr : SR Γ ι F ρ σ) (h : PstS ⟨Γ, base, bs, G⟩ ι F D W (.ok (.nx ρ) m)) : D.nx σ H := h σ ι F H (Ext.refl _ _) hr sr
theorem PstS.ends {D' : Ends} (h : PstS ⟨Γ, base, bs, G⟩ ι F D W r) (h1 : ∀ σ H, D.nx σ H → D'.nx σ H) (h2 : ∀ v H, D.rt v H → D'.rt v H) (h3 : ∀ σ H, D.bk σ H → D'.bk σ H) (h4 : ∀ σ H, D.ct σ H → D'.ct σ H) : PstS ⟨Γ, base, bs, G⟩ ι F D' W r := by
  cases r with
  | ok f m' => cases f with
    | nx ρ' => exact fun σ' ι' F' H' e1 a b => h1 _ _ (h σ' ι' F' H' e1 a b)
    | bk ρ' => exact fun σ' ι' F' H' e1 a b => h3 _ _ (h σ' ι' F' H' e1 a b)
    | ct ρ' => exact fun σ' ι' F' H' e1 a b => h4 _ _ (h σ' ι' F' H' e1 a b)
    | rt d => exact fun v ι' F' H' e1 a b => h2 _ _ (h v ι' F' H' e1 a b)
  | exc c fs ρ' m' => exact h
  | bad => exact h
end
section
variable {X : Cx} {Γ : Gl0} {P : ZP} {fa : String → Addr} {n : Nat} {N : List Str} {sc : Scope} {asg : Str → Bool} {cm : Bool} {base : Nat} {W : WX} {a b c e o tg : Expr} {es : List Expr} {pos apos p tpos : Pos} {f f1 f2 f3 : Ev → MH → R D} {fs : Ev → MH → R (List D)}
/-! ### targets -/
theorem g_nm {x : Str} {i : Nat} (g : GoodX Γ P fa n N sc asg cm X) (hi : N[i]? = some x) (hx : sc.names.lookup x = some .local ∨ (sc.names.lookup x = some .cell ∧ asg x = true)) : PG X (.Name x pos) (tG Γ base W fun d ρ m => .ok (ρ.set i (some d)) m) := by
  refine PG.imp (pg_name (by rw [g.nm]; exact g.nd) (by rw [g.nm]; exact hi) (by unfold L2.Loc; rw [g.scp]; exact hx.imp id And.left) (by rw [g.scp]; exact hx.elim (fun h => .inr h) fun h => .inl (g.fnc x h.2))) fun v σ H Q ⟨bs, G, ι, F, ρ, m, d, sr, hr, dx, h⟩ => ?_
  exact h _ ι F H (Ext.refl _ _) hr (sr.set dx i)
theorem asg_cons {e : Expr} (h : noStar e = true) (es : List Expr) (env : Env) : assignEach (e :: es) env = (false, assign e env) :: assignEach es env := by
  cases e <;> first | rfl | cases h
theorem asg_all {es : List Expr} (h : es.all noStar = true) (env : Env) : (assignEach es env).length = es.length ∧ (assignEach es env).findIdx? (·.1) = none := by
  induction es with
  | nil => exact ⟨rfl, rfl⟩
  | cons e es ih =>
    rw [List.all_cons, Bool.and_eq_true] at h
    rw [asg_cons h.1]
    obtain ⟨i1, i2⟩ := ih h.2
    refine ⟨by rw [List.length_cons, i1, List.length_cons], ?_⟩
    rw [List.findIdx?_cons, i2]
    rfl
theorem gs_nil : PGs X [] (tGs Γ base fun ds ρ m => match ds with | [] => .ok ρ m | _ => .bad) := by
  refine PGs.imp pgs_nil fun vs σ H Q ⟨bs, G, ι, F, ρ, m, ds, sr, hr, dx, h⟩ => ?_
  cases ds with
  | nil => exact ⟨dx, h σ ι F H (Ext.refl _ _) hr sr⟩
  | cons d ds => exact h.elim
theorem gs_cons {g1 : D → Ev → MH → R Ev} {g2 : List D → Ev → MH → R Ev} (h1 : PG X e (tG Γ base (fun _ _ _ _ => False) g1)) (h2 : PGs X es (tGs Γ base g2)) (hs : noStar e = true) : PGs X (e :: es) (tGs Γ base fun ds ρ m => match ds with | d :: ds => (g1 d ρ m).bind fun ρ m => g2 ds ρ m | [] => .bad) := by
  refine PGs.imp (pgs_cons h1 h2 (by rw [asg_cons hs]; rfl)) fun vs σ H Q ⟨bs, G, ι, F, ρ, m, ds, sr, hr, dx, h⟩ => ?_
  cases ds with
  | nil => exact h.elim
  | cons d ds =>
    obtain ⟨v, r, rfl, dv, dr⟩ := dx
    refine ⟨v, r, rfl, bs, G, ι, F, ρ, m, d, sr, hr, dv, (Pst.bind (rel := relS Γ) h).imp fun σ' H' ⟨ι1, F1, ρ1, m1, e1, hr1, sr1, h3⟩ => ?_⟩
    exact ⟨bs, G, ι1, F1, ρ1, m1, ds, sr1, hr1, dr.mono e1, h3⟩
theorem g_tp {k : Nat} {g1 : List D → Ev → MH → R Ev} (g : GoodX Γ P fa n N sc asg true X) (h1 : PGs X es (tGs Γ base g1)) (hs : es.all noStar = true) : PG X (.Tuple es k pos) (tG Γ base W fun d ρ m => match d with
    | .tup ds => if ds.length = es.length then (g1 ds ρ m).nox else .bad
    | _ => .bad) := by
  refine PG.imp (pg_tup (n := es.length) (g.clm rfl) h1 (asg_all hs X.env).1 (asg_all hs X.env).2) fun v σ H Q ⟨bs, G, ι, F, ρ, m, d, sr, hr, dx, h⟩ => ?_
  simp only at h
  split at h
  · rename_i ds
    split at h
    · rename_i cl
      obtain ⟨ad, vs, rfl, k1, dn⟩ := dx
      refine ⟨ad, vs, rfl, by rw [← g.gx.K]; exact hr.f.seqT k1, by rw [← dn.length]; exact cl, bs, G, ι, F, ρ, m, ds, sr, hr, dn, Pst.ofNox h⟩
    · exact h.elim
  · exact h.elim
theorem g_sb (g : GoodX Γ P fa n N sc asg cm X) (h1 : PE X o (tE Γ base W f1)) (h2 : PE X a (tE Γ base W f2)) (hs : noSl a = true) : PG X (.Subscript o a pos) (tG Γ base W fun d ρ m => (f1 ρ m).bind fun x m => (f2 ρ m).bind fun y m => (setD base x y d m).bind fun _ m => .ok ρ m) := by
  refine PG.imp (pg_sub h1 h2 (set_itemZ (base := base) g.gx) (by intro v; cases a <;> first | rfl | cases hs)) fun v σ H Q ⟨bs, G, ι, F, ρ, m, d, sr, hr, dx, h⟩ => ?_
  refine ⟨bs, G, ι, F, ρ, m, sr, hr, (Pst.bind (rel := Den Γ) h).imp fun x H1 ⟨ι1, F1, dx1, m1, e1, hr1, d1, h3⟩ => ?_⟩
  refine ⟨bs, G, ι1, F1, ρ, m1, sr.mono e1, hr1, (Pst.bind (rel := Den Γ) h3).imp fun y H2 ⟨ι2, F2, dy, m2, e2, hr2, d2, h4⟩ => ?_⟩
  refine ⟨bs, G, ι2, F2, m2, dx1, dy, d, _, hr2, d1.mono e2, d2, (dx.mono e1).mono e2, (Pst.bind (rel := relU) h4).imp fun _ H3 ⟨ι3, F3, _, m3, e3, hr3, _, h5⟩ => ?_⟩
  exact h5 σ ι3 F3 H3 (Ext.refl _ _) hr3 (((sr.mono e1).mono e2).mono e3)
end
end Zi
set_option maxHeartbeats 4000000
/-! Z8b: statements. -/
namespace Zi
open PySem PySem.Spec PyProof.Rows L2
section
variable {X : Cx} {Γ : Gl0} {P : ZP} {fa : String → Addr} {n : Nat} {N : List Str} {sc : Scope} {asg : Str → Bool} {cm : Bool} {base : Nat} {W : WX} {a b c e o tg : Expr} {es : List Expr} {pos apos p tpos : Pos} {f f1 f2 f3 : Ev → MH → R D} {fs : Ev → MH → R (List D)}
theorem st_bind {α β : Type} (r : R α) (g : α → MH → R β) (ρ : Ev) (k : β → MH → RS) : (r.bind g).st ρ k = r.st ρ fun x m => (g x m).st ρ k := by cases r <;> rfl
/-! ### simple ones -/
theorem s_pass : PS X (.Pass pos) (tSZ Γ base W fun ρ m => .ok (.nx ρ) m) := PS.imp ps_pass fun D σ H ⟨bs, G, ι, F, ρ, m, sr, hr, h⟩ => PstS.nx hr sr h
theorem s_brk : PS X (.Break pos) (tSZ Γ base W fun ρ m => .ok (.bk ρ) m) := PS.imp ps_break fun D σ H ⟨bs, G, ι, F, ρ, m, sr, hr, h⟩ => h σ ι F H (Ext.refl _ _) hr sr
theorem s_cnt : PS X (.Continue pos) (tSZ Γ base W fun ρ m => .ok (.ct ρ) m) := PS.imp ps_continue fun D σ H ⟨bs, G, ι, F, ρ, m, sr, hr, h⟩ => h σ ι F H (Ext.refl _ _) hr sr
theorem s_exp (h1 : PE X e (tE Γ base W f)) (hs : swapsWith e none pos.line X.env = Pure.pure false) : PS X (.Expr e pos) (tSZ Γ base W fun ρ m => (f ρ m).st ρ fun _ m => .ok (.nx ρ) m) := by
  refine PS.imp (ps_expr h1 hs) fun D σ H ⟨bs, G, ι, F, ρ, m, sr, hr, h⟩ => ?_
  exact ⟨bs, G, ι, F, ρ, m, sr, hr, (PstS.st hr.baseLe sr h).imp fun x H1 ⟨ι1, F1, d, m1, e1, hr1, dx, sr1, h1⟩ => PstS.nx hr1 sr1 h1⟩
theorem s_asg {gt : D → Ev → MH → R Ev} (h1 : PE X e (tE Γ base W f)) (h2 : PG X tg (tG Γ base W gt)) (hs : swapsWithSole [tg] e pos.line X.env = Pure.pure false) (hw : swappedStores [tg] e X.env = Pure.pure none) (ht : noStar tg = true) :
    PS X (.Assign [tg] e pos) (tSZ Γ base W fun ρ m => (f ρ m).st ρ fun x m => (gt x ρ m).st ρ fun ρ' m => .ok (.nx ρ') m) := by
  refine PS.imp (ps_asg h1 h2 hs hw (by rw [asg_cons ht]; rfl)) fun D σ H ⟨bs, G, ι, F, ρ, m, sr, hr, h⟩ => ?_
  refine ⟨bs, G, ι, F, ρ, m, sr, hr, (PstS.st hr.baseLe sr h).imp fun x H1 ⟨ι1, F1, d, m1, e1, hr1, dx, sr1, h1⟩ => ?_⟩
  exact ⟨bs, G, ι1, F1, ρ, m1, d, sr1, hr1, dx, (PstS.st (rel := relS Γ) hr1.baseLe sr1 h1).imp fun σ' H' ⟨ι2, F2, ρ2, m2, e2, hr2, sr2, _, h2⟩ => PstS.nx hr2 sr2 h2⟩
/-- x, y = e, e' -/
theorem s_par {i j : Nat} {x y : Str} {px py pt : Pos} {kt k2 : Nat} {pt2 : Pos} (g : GoodX Γ P fa n N sc asg true X) (hi : N[i]? = some x) (hj : N[j]? = some y) (hij : i ≠ j) (hx : sc.names.lookup x = some .local) (hy : sc.names.lookup y = some .local) (hp : PA X [a, b] (tA Γ base W fs))
    (hw : swappedStores [.Tuple [.Name x px, .Name y py] kt pt] (.Tuple [a, b] k2 pt2) X.env = Pure.pure (some [x, y])) :
    PS X (.Assign [.Tuple [.Name x px, .Name y py] kt pt] (.Tuple [a, b] k2 pt2) pos) (tSZ Γ base W fun ρ m => (fs ρ m).st ρ fun ds m => match ds with
      | [u, v] => .ok (.nx ((ρ.set i (some u)).set j (some v))) m
      | _ => .bad) := by
  refine PS.imp (ps_par (g.clm rfl) (by rw [g.nm]; exact g.nd) (by rw [g.nm]; exact hi) (by rw [g.nm]; exact hj) hij (by rw [g.scp]; exact hx) (by rw [g.scp]; exact hy) hp hw rfl) fun D σ H ⟨bs, G, ι, F, ρ, m, sr, hr, h⟩ => ?_
  refine ⟨bs, G, ι, F, ρ, m, sr, hr, (PstS.st (rel := Dens Γ) hr.baseLe sr h).imp fun vs H1 ⟨ι1, F1, ds, m1, e1, hr1, dx, sr1, h1⟩ => ?_⟩
  split at h1
  · obtain ⟨v, w, rfl, d1, d2⟩ := dx.two_inv
    exact ⟨v, w, rfl, PstS.nx hr1 ((sr1.set d1 i).set d2 j) h1⟩
  · exact h1.elim
theorem s_par3 {i j l : Nat} {x y z : Str} {px py pz pt : Pos} {kt k2 : Nat} {pt2 : Pos} (g : GoodX Γ P fa n N sc asg true X) (hi : N[i]? = some x) (hj : N[j]? = some y) (hl : N[l]? = some z) (hij : i ≠ j) (hil : i ≠ l) (hjl : j ≠ l) (hx : sc.names.lookup x = some .local) (hy : sc.names.lookup y = some .local) (hz : sc.names.lookup z = some .local) (hp : PA X [a, b, c] (tA Γ base W fs))
    (hw : swappedStores [.Tuple [.Name x px, .Name y py, .Name z pz] kt pt] (.Tuple [a, b, c] k2 pt2) X.env = Pure.pure (some [x, y, z])) :
    PS X (.Assign [.Tuple [.Name x px, .Name y py, .Name z pz] kt pt] (.Tuple [a, b, c] k2 pt2) pos) (tSZ Γ base W fun ρ m => (fs ρ m).st ρ fun ds m => match ds with
      | [u, v, w] => .ok (.nx (((ρ.set i (some u)).set j (some v)).set l (some w))) m
      | _ => .bad) := by
  refine PS.imp (ps_par3 (g.clm rfl) (by rw [g.nm]; exact g.nd) (by rw [g.nm]; exact hi) (by rw [g.nm]; exact hj) (by rw [g.nm]; exact hl) hij hil hjl (by rw [g.scp]; exact hx) (by rw [g.scp]; exact hy) (by rw [g.scp]; exact hz) hp hw rfl) fun D σ H ⟨bs, G, ι, F, ρ, m, sr, hr, h⟩ => ?_
  refine ⟨bs, G, ι, F, ρ, m, sr, hr, (PstS.st (rel := Dens Γ) hr.baseLe sr h).imp fun vs H1 ⟨ι1, F1, ds, m1, e1, hr1, dx, sr1, h1⟩ => ?_⟩
  split at h1
  · obtain ⟨v, r, rfl, d1, d2⟩ := dx
    obtain ⟨w, w', rfl, d2, d3⟩ := Dens.two_inv d2
    exact ⟨v, w, w', rfl, PstS.nx hr1 (((sr1.set d1 i).set d2 j).set d3 l) h1⟩
  · exact h1.elim
theorem s_aug {i : Nat} {x : Str} {op : Operator} (g : GoodX Γ P fa n N sc asg cm X) (hi : N[i]? = some x) (hx : sc.names.lookup x = some .local ∨ (sc.names.lookup x = some .cell ∧ asg x = true)) (h1 : PE X e (tE Γ base W f)) :
    PS X (.AugAssign (.Name x p) op e pos) (tSZ Γ base W fun ρ m => (ofO (ρ[i]?.getD none) m).st ρ fun x m => (f ρ m).st ρ fun y m => (iopD base op x y m).st ρ fun z m => .ok (.nx (ρ.set i (some z))) m) := by
  refine PS.imp (ps_aug (by rw [g.nm]; exact g.nd) (by rw [g.nm]; exact hi) (by unfold L2.Loc; rw [g.scp]; exact hx.imp id And.left) h1 (iopZ (base := base) g.gx op) (by rw [g.scp]; exact hx.elim (fun h => .inr h) fun h => .inl (g.fnc x h.2))) fun D σ H ⟨bs, G, ι, F, ρ, m, sr, hr, h⟩ => ?_
  have h : PstS ⟨Γ, base, bs, G⟩ ι F D W ((ofO (ρ[i]?.getD none) m).st ρ fun x m => (f ρ m).st ρ fun y m => (iopD base op x y m).st ρ fun z m => .ok (.nx (ρ.set i (some z))) m) := h
  cases q : ρ[i]?.getD none with
  | none => rw [q] at h; exact h.elim
  | some d =>
    rw [q] at h
    have q' : ρ[i]? = some (some d) := by
      cases z : ρ[i]? with
      | none => rw [z] at q; cases q
      | some o => rw [z] at q; exact congrArg some q
    obtain ⟨v, e1, e2⟩ := sr.at_ i d q'
    have h : PstS ⟨Γ, base, bs, G⟩ ι F D W ((f ρ m).st ρ fun y m => (iopD base op d y m).st ρ fun z m => .ok (.nx (ρ.set i (some z))) m) := h
    refine ⟨v, e1, bs, G, ι, F, ρ, m, sr, hr, (PstS.st hr.baseLe sr h).imp fun y H1 ⟨ι1, F1, dy, m1, e3, hr1, dyx, sr1, h1⟩ => ?_⟩
    exact ⟨bs, G, ι1, F1, m1, d, dy, _, hr1, e2.mono e3, dyx, (PstS.st (rel := Den Γ) hr1.baseLe sr1 h1).imp fun z H2 ⟨ι2, F2, dz, m2, e4, hr2, dzx, sr2, h2⟩ => PstS.nx hr2 (sr2.set dzx i) h2⟩
theorem pe_lks {t : TE} (h1 : PE X e t) : PE X e (fun σ H Q => t σ H fun v H1 => ∃ L, Lks L H1 (Q v)) :=
  ⟨fun pins s σ H Q I h => thn (h1.run pins s σ H _ I h) fun u s1 ⟨v, H1, I1, r, L, q⟩ => let ⟨H2, I2, q2⟩ := lks_run L H1 I1 q; ⟨v, H2, I2, r, q2⟩⟩
theorem s_ret {fz : Bool} (h1 : PE X e (tE Γ base W f)) : PS X (.Return (some e) pos) (tSZ Γ base W fun ρ m => (f ρ m).st ρ fun x m => if fz = true then (frz base x m).st ρ fun x m => .ok (.rt x) m else .ok (.rt x) m) := by
  refine PS.imp (ps_ret (pe_lks h1)) fun D σ H ⟨bs, G, ι, F, ρ, m, sr, hr, h⟩ => ?_
  refine ⟨bs, G, ι, F, ρ, m, sr, hr, (PstS.st hr.baseLe sr h).imp fun x H1 ⟨ι1, F1, d, m1, e1, hr1, dx, sr1, h1⟩ => ?_⟩
  split at h1
  · refine ⟨_, lks_frozen hr1 base fun H2 z => ?_⟩
    have h2 : PstS ⟨Γ, base, bs, G⟩ ι1 F1 D W ((match frzW (frzAt base m1 8) d with
      | some d' => R.ok d' (m1.take base)
      | none => R.bad).st ρ fun x m => .ok (.rt x) m) := h1
    split at h2
    · rename_i d' ed
      obtain ⟨x1, x2⟩ := hr1.freeze (H' := H2) (b := base) hr1.top.1 z (base' := base) (bs' := bs) ⟨hr1.top.1, fun x hx => ⟨(hr1.top.2 x hx).1, (hr1.top.2 x hx).1, hx⟩⟩
      have dd := (frz_den (z.sub hr1) (fun i d v => frzAt_den hr1 z 8 i d v) d d' x ed dx)
      exact h2 x _ _ H2 ⟨⟨[], by simp⟩, z.sub hr1⟩ x2 dd
    · exact h2.elim
  · exact ⟨[], h1 x ι1 F1 H1 (Ext.ofTake _ _) hr1 dx⟩
theorem s_retN : PS X (.Return none pos) (tSZ Γ base W fun ρ m => .ok (.rt .non) m) := PS.imp ps_retN fun D σ H ⟨bs, G, ι, F, ρ, m, sr, hr, h⟩ => h .non ι F H (Ext.ofTake _ _) hr rfl
/-! ### in order -/
theorem ss_nil : PSs X [] (tSZ Γ base W fun ρ m => .ok (.nx ρ) m) := PSs.imp pss_nil fun D σ H ⟨bs, G, ι, F, ρ, m, sr, hr, h⟩ => PstS.nx hr sr h
theorem ss_cons {st : Stmt} {rest : List Stmt} {s1 s2 : Ev → MH → RS} (h1 : PS X st (tSZ Γ base W s1)) (h2 : PSs X rest (tSZ Γ base W s2)) : PSs X (st :: rest) (tSZ Γ base W fun ρ m => match s1 ρ m with
    | .ok (.nx ρ') m' => s2 ρ' m'
    | r => r) := by
  refine PSs.imp (pss_cons h1 h2) fun D σ H ⟨bs, G, ι, F, ρ, m, sr, hr, h⟩ => ?_
  refine ⟨bs, G, ι, F, ρ, m, sr, hr, ?_⟩
  cases q : s1 ρ m with
  | bad => simp only [q] at h; exact h
  | exc c fs ρ' m' => simp only [q] at h; exact h
  | ok fl m' =>
    cases fl with
    | nx ρ' =>
      simp only [q] at h
      exact fun σ' ι' F' H' e1 hr1 sr1 => ⟨bs, G, ι', F', ρ', m', sr1, hr1, PstS.world e1 hr.baseLe h⟩
    | rt d => simp only [q] at h; exact h
    | bk ρ' => simp only [q] at h; exact h
    | ct ρ' => simp only [q] at h; exact h
theorem s_if {t : Ev → MH → R Bool} {x y : List Stmt} {s1 s2 : Ev → MH → RS} (ht : PT X c (tT Γ base W t)) (h1 : PSs X x (tSZ Γ base W s1)) (h2 : PSs X y (tSZ Γ base W s2)) : PS X (.If c x y pos) (tSZ Γ base W fun ρ m => (t ρ m).st ρ fun k m => if k = true then s1 ρ m else s2 ρ m) := by
  refine PS.imp (ps_if ht h1 h2) fun D σ H ⟨bs, G, ι, F, ρ, m, sr, hr, h⟩ => ?_
  refine ⟨bs, G, ι, F, ρ, m, sr, hr, (PstS.st (rel := relB) hr.baseLe sr h).imp fun k H1 ⟨ι1, F1, d, m1, e1, hr1, dx, sr1, h1⟩ => ?_⟩
  have : d = k := dx
  subst this
  cases d with
  | true => rw [if_pos rfl] at h1 ⊢; exact ⟨bs, G, ι1, F1, ρ, m1, sr1, hr1, h1⟩
  | false => rw [if_neg Bool.false_ne_true] at h1 ⊢; exact ⟨bs, G, ι1, F1, ρ, m1, sr1, hr1, h1⟩
/-! ### loops -/
theorem s_whl {t : Ev → MH → R Bool} {x : List Stmt} {s1 : Ev → MH → RS} {lim : Nat} (hp : PassesOwn (model X.prog X.w) X.A X.env X.xe) (ht : PT X c (tT Γ base W t)) (h1 : PSs X x (tSZ Γ base W s1)) : PS X (.While c x [] pos) (tSZ Γ base W fun ρ m => whileL lim t s1 ρ m) := by
  refine PS.imp (ps_while hp ht h1) fun D σ H ⟨bs, G, ι, F, ρ, m, sr, hr, h⟩ => ?_
  refine ⟨fun k σ H => ∃ bs G ι F ρ m, SR Γ ι F ρ σ ∧ HR Γ base bs G ι F m H ∧ PstS ⟨Γ, base, bs, G⟩ ι F D W (whileL k t s1 ρ m), ⟨lim, bs, G, ι, F, ρ, m, sr, hr, h⟩, ?_⟩
  clear h hr sr
  rintro k σ H ⟨bs, G, ι, F, ρ, m, sr, hr, h⟩
  cases k with
  | zero => exact h.elim
  | succ k =>
    unfold whileL at h
    refine ⟨bs, G, ι, F, ρ, m, sr, hr, (PstS.st (rel := relB) hr.baseLe sr h).imp fun b H1 ⟨ι1, F1, d, m1, e1, hr1, dx, sr1, h1⟩ => ?_⟩
    have : d = b := dx
    subst this
    cases d with
    | false => rw [if_neg Bool.false_ne_true] at h1 ⊢; exact PstS.nx hr1 sr1 h1
    | true =>
      rw [if_pos rfl] at h1 ⊢
      refine ⟨_, fun σ' H' hn => ⟨k, Nat.lt_succ_self k, hn⟩, bs, G, ι1, F1, ρ, m1, sr1, hr1, ?_⟩
      cases q : s1 ρ m1 with
      | bad => simp only [q] at h1; exact h1
      | exc c fs ρ' m' => simp only [q] at h1; exact h1
      | ok fl m' =>
        cases fl with
        | nx ρ' => simp only [q] at h1; exact fun σ' ι' F' H' e2 hr2 sr2 => ⟨bs, G, ι', F', ρ', m', sr2, hr2, PstS.world e2 hr1.baseLe h1⟩
        | ct ρ' => simp only [q] at h1; exact fun σ' ι' F' H' e2 hr2 sr2 => ⟨bs, G, ι', F', ρ', m', sr2, hr2, PstS.world e2 hr1.baseLe h1⟩
        | bk ρ' => simp only [q] at h1; exact h1
        | rt d => simp only [q] at h1; exact h1
theorem s_for {x : List Stmt} {iter : Expr} {gi : Ev → MH → R It1} {gt : D → Ev → MH → R Ev} {s1 : Ev → MH → RS} (g : GoodX Γ P fa n N sc asg true X) (hp : PassesOwn (model X.prog X.w) X.A X.env X.xe) (hi : PI X tg iter (tI Γ base W gi)) (hg : PG X tg (tG Γ base W gt)) (h1 : PSs X x (tSZ Γ base W s1)) (hs : noSet iter = true) :
    PS X (.For tg iter x [] pos) (tSZ Γ base W fun ρ m => (gi ρ m).st ρ fun (q : It1) m => forL (sameB q.2) (fun d ρ m => (gt d ρ m).st ρ fun ρ m => s1 ρ m) q.1 ρ m) := by
  refine PS.imp (ps_for hp (g.clm rfl) hi hg h1 (folded hs X.env)) fun D σ H ⟨bs, G, ι, F, ρ, m, sr, hr, h⟩ => ?_
  refine ⟨bs, G, ι, F, ρ, m, sr, hr, (PstS.st (rel := relI Γ base) hr.baseLe sr h).imp fun J H1 ⟨ι1, F1, ⟨ds, lk⟩, m1, e1, hr1, sp, sr1, h1⟩ => ?_⟩
  refine ⟨fun i k σ H => i + k = ds.length ∧ ∃ bs G ι F ρ m, Ext ι1 F1 ι F ∧ SR Γ ι F ρ σ ∧ HR Γ base bs G ι F m H ∧ PstS ⟨Γ, base, bs, G⟩ ι F D W (forL (sameB lk) (fun d ρ m => (gt d ρ m).st ρ fun ρ m => s1 ρ m) (ds.drop i) ρ m),
    ⟨ds.length, Nat.zero_add _, bs, G, ι1, F1, ρ, m1, Ext.refl _ _, sr1, hr1, h1⟩, ?_⟩
  clear h1 hr1 sr1 hr sr h
  rintro i k σ H ⟨hik, bs, G, ι', F', ρ, m, ee, sr, hr, h⟩
  by_cases hi : i < ds.length
  · right
    have ed : ds.drop i = ds[i] :: ds.drop (i + 1) := List.drop_eq_getElem_cons hi
    rw [ed] at h
    unfold forL at h
    split at h
    · rename_i sm
      obtain ⟨go, yl⟩ := (sp i bs G ι' F' m H ee hr sm).1 hi
      refine ⟨go, fun σ' H' => ∃ bs G ι F ρ m, Ext ι1 F1 ι F ∧ SR Γ ι F ρ σ' ∧ HR Γ base bs G ι F m H' ∧ PstS ⟨Γ, base, bs, G⟩ ι F D W (forL (sameB lk) (fun d ρ m => (gt d ρ m).st ρ fun ρ m => s1 ρ m) (ds.drop (i + 1)) ρ m), fun σ' H' hn => ⟨k - 1, by omega, by omega, hn⟩, fun xv H' hy => ?_⟩
      obtain ⟨F2, d, e2, hr2, e3, dx⟩ := yl xv H' hy
      have ed2 : ds[i] = d := by rw [List.getElem?_eq_getElem hi] at e3; exact Option.some.inj e3
      rw [ed2] at h
      have h := PstS.world (r := _) e2 hr.baseLe h
      refine ⟨bs, G, ι', F2, ρ, m, d, sr.mono e2, hr2, dx, ?_⟩
      cases qg : gt d ρ m with
      | bad => simp only [qg, R.st_bad] at h; exact h
      | exc c fs m' => simp only [qg, R.st_exc] at h; exact fun ι'' F'' H'' cls dd e4 hr4 xd => h σ ι'' F'' H'' cls dd e4 hr4 ((sr.mono e2).mono e4) xd
      | ok ρ2 m2 =>
        simp only [qg, R.st_ok] at h
        intro σ2 ι3 F3 H3 e4 hr4 sr4
        have h := PstS.world (r := _) e4 hr2.baseLe h
        refine ⟨bs, G, ι3, F3, ρ2, m2, sr4, hr4, ?_⟩
        have e5 : Ext ι1 F1 ι3 F3 := (ee.trans e2).trans e4
        cases q : s1 ρ2 m2 with
        | bad => simp only [q] at h; exact h
        | exc c fs ρ' m' => simp only [q] at h; exact h
        | ok fl m' =>
          cases fl with
          | nx ρ' => simp only [q] at h; exact fun σ' ι4 F4 H4 e6 hr6 sr6 => ⟨bs, G, ι4, F4, ρ', m', e5.trans e6, sr6, hr6, PstS.world e6 hr4.baseLe h⟩
          | ct ρ' => simp only [q] at h; exact fun σ' ι4 F4 H4 e6 hr6 sr6 => ⟨bs, G, ι4, F4, ρ', m', e5.trans e6, sr6, hr6, PstS.world e6 hr4.baseLe h⟩
          | bk ρ' => simp only [q] at h; exact h
          | rt d => simp only [q] at h; exact h
    · exact h.elim
  · left
    have ed : ds.drop i = [] := List.drop_eq_nil_of_le (by omega)
    rw [ed] at h
    unfold forL at h
    split at h
    · rename_i sm
      exact ⟨(sp i bs G ι' F' m H ee hr sm).2 (by show ds.length ≤ i; omega), PstS.nx hr sr h⟩
    · exact h.elim
end
end Zi
set_option maxHeartbeats 4000000
/-! Z8c: raise, try. -/
namespace Zi
open PySem PySem.Spec PyProof.Rows L2
/-- the frame is a def's own -/
structure FrX (X : Cx) : Prop where
  stk : X.stack = X.env :: X.outer
  fr : X.env.frame = some X.env.locals
section
variable {X : Cx} {Γ : Gl0} {P : ZP} {fa : String → Addr} {n : Nat} {N : List Str} {sc : Scope} {asg : Str → Bool} {cm : Bool} {base : Nat} {W : WX} {a b c e o tg : Expr} {es : List Expr} {pos apos p tpos : Pos} {f f1 f2 f3 : Ev → MH → R D} {fs : Ev → MH → R (List D)}
/-- raise C("..") of a class without fields -/
theorem s_rais0 {k : String} {bss : List String} {msg : Str} {j : Nat} {p2 p3 : Pos} (g : GoodX Γ P fa n N sc asg true X) (tk : Takes X W) (hx : P.xs.lookup k = some (bss, [])) (hn : sc.names.lookup (Str.ofString k) = some .globalImplicit) (hd : (Str.ofString k == ("__debug__" : Str)) = false) :
    PS X (.Raise (some (.Call (.Name (Str.ofString k) p) [.Constant (.str msg) j p2] [] p3)) none pos) (tSZ Γ base W fun ρ m => .exc k [] ρ m) := by
  obtain ⟨h1, h2, h3, h4⟩ := g.ge.nm k _ hx
  have h5 := g.ge.bare k bss hx
  rw [g.gx.K] at h2 h3 h4 h5
  refine PS.imp (ps_raise (g.clm rfl) tk (pmk_own PySem.F.excBase_ValueError h5 h1 h2 (raises_own h3 h4) (gl_of g hn) hd)) fun D σ H ⟨bs, G, ι, F, ρ, m, sr, hr, h⟩ => ?_
  exact h σ ι F H _ none (Ext.refl _ _) hr sr ⟨rfl, .inl rfl⟩
theorem GoodX.tr (g : GoodX Γ P fa n N sc asg cm X) (pn : List (Addr × Obj)) (xe : Value → Shared → Prop) : GoodX Γ P fa n N sc asg cm (X.tr pn xe) where
  gx := ⟨g.gx.K, g.gx.w, g.gx.u⟩
  gf := g.gf
  ge := g.ge
  nm := g.nm
  nd := g.nd
  dbg := g.dbg
  scp := g.scp
  fnc := g.fnc
  clm := g.clm
  room := g.room
  calls := g.calls
theorem GoodX.suite (g : GoodX Γ P fa n N sc asg cm X) (ad : Addr) (pn : List (Addr × Obj)) : GoodX Γ P fa n N sc asg false (X.suite ad pn) where
  gx := ⟨g.gx.K, g.gx.w, g.gx.u⟩
  gf := g.gf
  ge := g.ge
  nm := g.nm
  nd := g.nd
  dbg := g.dbg
  scp := g.scp
  fnc := g.fnc
  clm := (fun h => nomatch h)
  room := (fun h => nomatch h)
  calls := (fun h => nomatch h)
theorem clr_sr {ι' : List Addr} {F' : Hp} {ρ : Ev} {σ : L2.St} {i : Option Nat} (s : SR Γ ι' F' ρ σ) : SR Γ ι' F' (clrI i ρ) (clrI i σ) := by
  cases i with
  | none => exact s
  | some i => exact s.clear i none
/-- a handler's suite, its slot cleared before and behind -/
theorem PstS.unclr {bs : List Nat} {G : Hp} {ι : List Addr} {F : Hp} {D : Ends} {W : WX} {i : Option Nat} {r : RS} (h : PstS ⟨Γ, base, bs, G⟩ ι F D W (r.clr i)) :
    PstS ⟨Γ, base, bs, G⟩ ι F { nx := fun σ' H' => D.nx (clrI i σ') H', rt := D.rt, bk := fun σ' H' => D.bk (clrI i σ') H', ct := fun σ' H' => D.ct (clrI i σ') H' } (fun _ _ _ _ => False) r := by
  cases r with
  | ok fl m' => cases fl with
    | nx ρ' => exact fun σ' ι' F' H' e hr sr => h _ ι' F' H' e hr (clr_sr sr)
    | bk ρ' => exact fun σ' ι' F' H' e hr sr => h _ ι' F' H' e hr (clr_sr sr)
    | ct ρ' => exact fun σ' ι' F' H' e hr sr => h _ ι' F' H' e hr (clr_sr sr)
    | rt d => exact h
  | exc c fs ρ' m' => exact h.elim
  | bad => exact h.elim
/-- one handler: classes that are tried in turn -/
structure Hd1 (X : Cx) (Γ : Gl0) (P : ZP) (sc : Scope) (k : String) (x : Str) : Prop where
  inx : ∃ q, P.xs.lookup k = some q
  nm : x = Str.ofString k
  gl : sc.names.lookup x = some .globalImplicit
  dbg : (x == ("__debug__" : Str)) = false
theorem names_of (g : GoodX Γ P fa n N sc asg cm X) {k : String} {x : Str} (h : Hd1 X Γ P sc k x) : Names X x (.ref (Γ.ca k)) := by
  obtain ⟨q, hq⟩ := h.inx
  obtain ⟨h1, _⟩ := g.ge.nm k q hq
  rw [← h.nm] at h1
  exact ⟨gl_of g h.gl, h.dbg, .inl h1⟩
/-- handlers without names: what they do, in turn -/
def exHs (sub : String → String → Bool) (k : String) : List (String × (Ev → MH → RS)) → Ev → MH → RS
  | [], ρ, m => .exc k [] ρ m
  | (h, s) :: r, ρ, m => if isTy sub k [h] = true then (s ρ m).clr none else exHs sub k r ρ m
theorem s_try {body : List Stmt} {h₀ : ExceptHandler} {hds : List ExceptHandler} {l : List (String × (Ev → MH → RS))} {sb : Ev → MH → RS} {call : Nat → String → List D → MH → R D} {b0 : Nat} (g : GoodX Γ P fa n N sc asg true X) (fx : FrX X) (tk : Takes X W)
    (hb : ∀ (W : WX) (pn : List (Addr × Obj)) (xe : Value → Shared → Prop), Takes (X.tr pn xe) W → PassesOwn (model X.prog X.w) X.A X.env xe → PSs (X.tr pn xe) body (tSZ Γ base W sb))
    (hl : ∀ q ∈ l, ∃ r, P.xs.lookup q.1 = some r) (hh : HdsOk X (h₀ :: hds) (l.map fun q => (.ref (Γ.ca q.1), fun _ _ _ => tSZ Γ base (fun _ _ _ _ => False) q.2))) :
    PS X (.Try body (h₀ :: hds) [] [] pos) (tSZ Γ base W fun ρ m => match sb ρ m with
      | .exc k fs ρ' m' => if ((ecOf P b0 call).xfs k).isSome = true then (if fs.isEmpty = true then exHs (ecOf P b0 call).sub k l ρ' m' else .bad) else .bad
      | r => r) := by
  refine PS.imp (ps_try_many fx.stk fx.fr tk hb hh) fun D σ H ⟨bs, G, ι, F, ρ, m, sr, hr, h⟩ => ?_
  clear hh hb
  have key : ∀ (l : List (String × (Ev → MH → RS))) (k : String) (ρ' : Ev) (m' : MH) (r : List String × List String) (σ' : L2.St) (ι' : List Addr) (F' : Hp) (H' : Hp) (cls : Value) (d : Option Addr), (∀ q ∈ l, ∃ r, P.xs.lookup q.1 = some r) → P.xs.lookup k = some r → HR Γ base bs G ι' F' m' H' → SR Γ ι' F' ρ' σ' → XD Γ ι' F' k [] cls d H' →
      PstS ⟨Γ, base, bs, G⟩ ι' F' D W (exHs (ecOf P b0 call).sub k l ρ' m') → wMany X.K W D (l.map fun q => (.ref (Γ.ca q.1), fun _ _ _ => tSZ Γ base (fun _ _ _ _ => False) q.2)) cls d σ' H' := by
    intro l
    induction l with
    | nil => exact fun k ρ' m' r σ' ι' F' H' cls d _ _ hr1 sr1 xd h => h σ' ι' F' H' cls d (Ext.refl _ _) hr1 sr1 xd
    | cons x l ih =>
      intro k ρ' m' r σ' ι' F' H' cls d hl hk hr1 sr1 xd h
      obtain ⟨r2, hr2⟩ := hl x List.mem_cons_self
      have ex := g.ge.exm k x.1 r r2 hk hr2
      rw [g.gx.K, ← xd.1] at ex
      have h : PstS ⟨Γ, base, bs, G⟩ ι' F' D W (if isTy (ecOf P b0 call).sub k [x.1] = true then (x.2 ρ' m').clr none else exHs (ecOf P b0 call).sub k l ρ' m') := h
      refine ⟨_, ex, fun eb ad na => ?_, fun eb => ?_⟩
      · have eb' : isTy (ecOf P b0 call).sub k [x.1] = true := eb
        rw [if_pos eb'] at h
        exact ⟨bs, G, ι', F', ρ', m', sr1, hr1, PstS.unclr h⟩
      · have eb' : ¬ isTy (ecOf P b0 call).sub k [x.1] = true := by
          rw [show isTy (ecOf P b0 call).sub k [x.1] = isTy (ecOf P 0 fun _ _ _ _ => .bad).sub k [x.1] from rfl, eb]; exact Bool.false_ne_true
        rw [if_neg eb'] at h
        exact ih k ρ' m' r σ' ι' F' H' cls d (fun q hq => hl q (List.mem_cons_of_mem _ hq)) hk hr1 sr1 xd h
  refine ⟨bs, G, ι, F, ρ, m, sr, hr, ?_⟩
  simp only at h
  cases q : sb ρ m with
  | bad => rw [q] at h; exact h
  | ok fl m' => rw [q] at h; cases fl <;> exact h
  | exc k fs ρ' m' =>
    simp only [q] at h
    intro σ' ι' F' H' cls d e hr1 sr1 xd
    split at h
    · rename_i kx
      have hk' : ((P.xs.lookup k).map (·.2)).isSome = true := kx
      rw [Option.isSome_map] at hk'
      obtain ⟨r, hk⟩ := Option.isSome_iff_exists.mp hk'
      split at h
      · rename_i z
        have fe : fs = [] := List.isEmpty_iff.mp z
        subst fe
        exact key l k ρ' m' r σ' ι' F' H' cls d hl hk hr1 sr1 xd (PstS.world e hr.baseLe h)
      · exact h.elim
    · exact h.elim
/-- .. one handler with a name -/
theorem s_try_as {body suite : List Stmt} {b₀ : Stmt} {x nm : Str} {i : Nat} {np pos' : Pos} {hk : String} {sb sh : Ev → MH → RS} {call : Nat → String → List D → MH → R D} {b0 : Nat} (g : GoodX Γ P fa n N sc asg true X) (fx : FrX X) (tk : Takes X W) (hi : N[i]? = some nm) (hln : sc.names.lookup nm = some .local) (h1 : Hd1 X Γ P sc hk x)
    (hb : ∀ (W : WX) (pn : List (Addr × Obj)) (xe : Value → Shared → Prop), Takes (X.tr pn xe) W → PassesOwn (model X.prog X.w) X.A X.env xe → PSs (X.tr pn xe) body (tSZ Γ base W sb))
    (hsu : ∀ (a : Addr) (pn : List (Addr × Obj)), PSs (X.suite a pn) (b₀ :: suite) (tSZ Γ base (fun _ _ _ _ => False) sh)) :
    PS X (.Try body [.ExceptHandler (some (.Name x np)) (some nm) (b₀ :: suite) pos'] [] [] pos) (tSZ Γ base W fun ρ m => match sb ρ m with
      | .exc k fs ρ' m' => if ((ecOf P b0 call).xfs k).isSome = true then (if fs.isEmpty = true then (if isTy (ecOf P b0 call).sub k [hk] = true then (sh (clrI (some i) ρ') m').clr (some i) else .exc k [] ρ' m') else .bad) else .bad
      | r => r) := by
  refine PS.imp (ps_try_as (ts := fun _ _ _ => tSZ Γ base (fun _ _ _ _ => False) sh) fx.stk fx.fr (by rw [g.nm]; exact g.nd) (by rw [g.nm]; exact hi) (by show X.env.scope.names.lookup nm = _; rw [g.scp]; exact hln) (names_of g h1) tk hb (fun a oe cls d pn _ _ => hsu a _)) fun D σ H ⟨bs, G, ι, F, ρ, m, sr, hr, h⟩ => ?_
  refine ⟨bs, G, ι, F, ρ, m, sr, hr, ?_⟩
  simp only at h
  cases q : sb ρ m with
  | bad => rw [q] at h; exact h
  | ok fl m' => rw [q] at h; cases fl <;> exact h
  | exc k fs ρ' m' =>
    simp only [q] at h
    intro σ' ι' F' H' cls d e hr1 sr1 xd
    split at h
    · rename_i kx
      have hk' : ((P.xs.lookup k).map (·.2)).isSome = true := kx
      rw [Option.isSome_map] at hk'
      obtain ⟨r, hkr⟩ := Option.isSome_iff_exists.mp hk'
      split at h
      · rename_i z
        have fe : fs = [] := List.isEmpty_iff.mp z
        subst fe
        have h := PstS.world e hr.baseLe h
        obtain ⟨r2, hr2⟩ := h1.inx
        have ex := g.ge.exm k hk r r2 hkr hr2
        rw [g.gx.K, ← xd.1] at ex
        refine ⟨_, ex, fun eb ad na => ?_, fun eb => ?_⟩
        · have eb' : isTy (ecOf P b0 call).sub k [hk] = true := eb
          rw [if_pos eb'] at h
          exact ⟨bs, G, ι', F', clrI (some i) ρ', m', sr1.clear i _, hr1, PstS.unclr h⟩
        · have eb' : ¬ isTy (ecOf P b0 call).sub k [hk] = true := by
            rw [show isTy (ecOf P b0 call).sub k [hk] = isTy (ecOf P 0 fun _ _ _ _ => .bad).sub k [hk] from rfl, eb]; exact Bool.false_ne_true
          rw [if_neg eb'] at h
          exact h σ' ι' F' H' cls d (Ext.refl _ _) hr1 sr1 xd
      · exact h.elim
    · exact h.elim
end
end Zi
set_option maxHeartbeats 4000000
/-! Z8d: comprehensions. -/
namespace Zi
open PySem PySem.Spec PyProof.Rows L2
/-! ### a thing that the frame is making -/
section
variable {Γ : Gl0} {base : Nat} {bs : List Nat} {G : Hp} {ι : List Addr} {F : Hp} {m : MH} {H : Hp} {p : Addr} {o o' : HO}
theorem upd_none {H : Hp} {p : Addr} {o : HO} {q : Addr} (h : q ≠ p) : upd H p o q = H q := upd_ne h
theorem HR.fresh_of (R : HR Γ base bs G ι F m H) (hp : H p = none) : G p = none ∧ F p = none := by
  constructor
  · cases q : G p with
    | none => rfl
    | some z => rw [R.g _ _ q] at hp; cases hp
  · cases q : F p with
    | none => rfl
    | some z => rw [R.f _ _ q] at hp; cases hp
theorem HR.hold (R : HR Γ base bs G ι F m H) (hp : H p = none) : HR Γ base bs (upd G p o) ι F m (upd H p o) where
  g := fun a u h => by
    by_cases e : a = p
    · subst e; rw [upd_same] at h ⊢; exact h
    · rw [upd_ne e] at h ⊢; exact R.g _ _ h
  f := R.f.upd_none hp
  fg := fun a u h => by
    by_cases e : a = p
    · subst e; exact (R.fresh_of hp).2
    · rw [upd_ne e] at h; exact R.fg _ _ h
  len := R.len
  live := fun i a u h1 h2 => by
    obtain ⟨k1, k2, ho, k3, k4⟩ := R.live i a u h1 h2
    have ne : a ≠ p := fun q => by rw [q, hp] at k3; cases k3
    exact ⟨k1, by rw [upd_ne ne]; exact k2, ho, by rw [upd_ne ne]; exact k3, k4⟩
  uniq := R.uniq
  top := R.top
  bel := R.bel
theorem HR.held (R : HR Γ base bs (upd G p o) ι F m H) : H p = some o ∧ F p = none ∧ ∀ (i : Nat) (u : Ob), ι[i]? = some p → m[i]? ≠ some (some u) := by
  refine ⟨R.g _ _ upd_same, R.fg _ _ upd_same, fun i u h1 h2 => ?_⟩
  obtain ⟨_, k2, _⟩ := R.live i p u h1 h2
  rw [upd_same] at k2; cases k2
theorem HR.regrasp (R : HR Γ base bs (upd G p o) ι F m H) : HR Γ base bs (upd G p o') ι F m (upd H p o') where
  g := fun a u h => by
    by_cases e : a = p
    · subst e; rw [upd_same] at h ⊢; exact h
    · rw [upd_ne e] at h ⊢; exact R.g _ _ (by rw [upd_ne e]; exact h)
  f := fun a u h => by
    by_cases e : a = p
    · subst e; rw [R.held.2.1] at h; cases h
    · rw [upd_ne e]; exact R.f _ _ h
  fg := fun a u h => by
    by_cases e : a = p
    · subst e; exact R.held.2.1
    · exact R.fg a u (by rw [upd_ne e] at h ⊢; exact h)
  len := R.len
  live := fun i a u h1 h2 => by
    obtain ⟨k1, k2, ho, k3, k4⟩ := R.live i a u h1 h2
    have ne : a ≠ p := fun q => by subst q; exact R.held.2.2 i u h1 h2
    exact ⟨k1, by rw [upd_ne ne] at k2 ⊢; exact k2, ho, by rw [upd_ne ne]; exact k3, k4⟩
  uniq := R.uniq
  top := R.top
  bel := R.bel
/-- it is the model's from now on: for ever -/
theorem HR.give (R : HR Γ base bs (upd G p o) ι F m H) (hG : G p = none) : Ext ι F ι (upd F p o) ∧ HR Γ base bs G ι (upd F p o) m H := by
  have sub : Sub F (upd F p o) := fun a u h => by
    by_cases e : a = p
    · subst e; rw [R.held.2.1] at h; cases h
    · rw [upd_ne e]; exact h
  have ee : Ext ι F ι (upd F p o) := ⟨⟨[], by simp⟩, sub⟩
  refine ⟨ee, ?_, ?_, ?_, R.len, ?_, R.uniq, R.top, R.bel⟩
  · intro a u h
    have ne : a ≠ p := fun e => by subst e; rw [hG] at h; cases h
    exact R.g _ _ (by rw [upd_ne ne]; exact h)
  · intro a u h
    by_cases e : a = p
    · subst e; rw [upd_same] at h; rw [R.held.1, h]
    · rw [upd_ne e] at h; exact R.f _ _ h
  · intro a u h
    have ne : a ≠ p := fun e => by subst e; rw [hG] at h; cases h
    rw [upd_ne ne]
    exact R.fg a u (by rw [upd_ne ne]; exact h)
  · intro i a u h1 h2
    obtain ⟨k1, k2, ho, k3, k4⟩ := R.live i a u h1 h2
    have ne : a ≠ p := fun q => by subst q; exact R.held.2.2 i u h1 h2
    exact ⟨by rw [upd_ne ne]; exact k1, by rw [upd_ne ne] at k2; exact k2, ho, k3, k4.mono ee⟩
/-- .. to be changed -/
theorem HR.give2 (R : HR Γ base bs (upd G p o) ι F m H) (hG : G p = none) {ob : Ob} (d : ObDen Γ ι F p ob o) : HR Γ base bs G (ι ++ [p]) F (m ++ [some ob]) H := by
  have R0 : HR Γ base bs G ι F m (fun a => if a = p then none else H a) := {
    g := fun a u h => by
      have ne : a ≠ p := fun e => by subst e; rw [hG] at h; cases h
      show (if a = p then none else H a) = some u
      rw [if_neg ne]; exact R.g _ _ (by rw [upd_ne ne]; exact h)
    f := fun a u h => by
      have ne : a ≠ p := fun e => by subst e; rw [R.held.2.1] at h; cases h
      show (if a = p then none else H a) = some u
      rw [if_neg ne]; exact R.f _ _ h
    fg := fun a u h => by
      have ne : a ≠ p := fun e => by subst e; rw [hG] at h; cases h
      exact R.fg a u (by rw [upd_ne ne]; exact h)
    len := R.len
    live := fun i a u h1 h2 => by
      obtain ⟨k1, k2, ho, k3, k4⟩ := R.live i a u h1 h2
      have ne : a ≠ p := fun q => by subst q; exact R.held.2.2 i u h1 h2
      refine ⟨k1, by rw [upd_ne ne] at k2; exact k2, ho, ?_, k4⟩
      show (if a = p then none else H a) = some ho
      rw [if_neg ne]; exact k3
    uniq := R.uniq
    top := R.top
    bel := R.bel }
  have e : upd (fun a => if a = p then none else H a) p o = H := by
    funext a
    by_cases q : a = p
    · subst q; rw [upd_same, R.held.1]
    · rw [upd_ne q]; show (if a = p then none else H a) = H a; rw [if_neg q]
  have := R0.alloc (p := p) (o := o) (ob := ob) (if_pos rfl) d
  rw [e] at this
  exact this
end
/-! ### targets of comprehensions -/
def tGw (Γ : Gl0) (base : Nat) (vs : List Nat) (g : D → Ev → MH → R Ev) : TG := fun v σ H Q => ∃ bs G ι F ρ m d, SR Γ ι F ρ σ ∧ HR Γ base bs G ι F m H ∧ Den Γ ι F d v ∧ Pst ⟨Γ, base, bs, G⟩ (fun ι F ρ' σ' => SR Γ ι F ρ' σ' ∧ L2.wipe σ' vs = L2.wipe σ vs) ι F Q (fun _ _ _ => False) (g d ρ m)
def tGsw (Γ : Gl0) (base : Nat) (vs : List Nat) (g : List D → Ev → MH → R Ev) : TGs := fun us σ H Q => ∃ bs G ι F ρ m ds, SR Γ ι F ρ σ ∧ HR Γ base bs G ι F m H ∧ Dens Γ ι F ds us ∧ Pst ⟨Γ, base, bs, G⟩ (fun ι F ρ' σ' => SR Γ ι F ρ' σ' ∧ L2.wipe σ' vs = L2.wipe σ vs) ι F Q (fun _ _ _ => False) (g ds ρ m)
theorem wipe_set {σ : L2.St} {i : Nat} {o : Option V} : ∀ {vs : List Nat}, i ∈ vs → L2.wipe (σ.set i o) vs = L2.wipe σ vs
  | [], h => nomatch h
  | v :: vs, h => by
    show (L2.wipe (σ.set i o) vs).set v none = (L2.wipe σ vs).set v none
    by_cases e : i ∈ vs
    · rw [wipe_set e]
    · have ev : i = v := (List.mem_cons.mp h).resolve_right e
      subst ev
      have com : ∀ {ws : List Nat}, i ∉ ws → L2.wipe (σ.set i o) ws = (L2.wipe σ ws).set i o := by
        intro ws
        induction ws with
        | nil => intro _; rfl
        | cons w ws ih =>
          intro hn
          show (L2.wipe (σ.set i o) ws).set w none = ((L2.wipe σ ws).set w none).set i o
          rw [ih fun z => hn (List.mem_cons_of_mem _ z), List.set_comm _ _ (fun z => hn (by rw [z]; exact List.mem_cons_self))]
      rw [com e, List.set_set]
section
variable {X : Cx} {Γ : Gl0} {P : ZP} {fa : String → Addr} {n : Nat} {N : List Str} {sc : Scope} {asg : Str → Bool} {cm : Bool} {base : Nat} {W : WX} {a b c e o tg : Expr} {es : List Expr} {pos apos p tpos : Pos} {f f1 f2 f3 : Ev → MH → R D} {fs : Ev → MH → R (List D)}
theorem gw_nm {x : Str} {i : Nat} {vs : List Nat} (g : GoodX Γ P fa n N sc asg cm X) (hi : N[i]? = some x) (hx : sc.names.lookup x = some .local ∨ (sc.names.lookup x = some .cell ∧ asg x = true)) (hv : i ∈ vs) : PG X (.Name x pos) (tGw Γ base vs fun d ρ m => .ok (ρ.set i (some d)) m) := by
  refine PG.imp (pg_name (by rw [g.nm]; exact g.nd) (by rw [g.nm]; exact hi) (by unfold L2.Loc; rw [g.scp]; exact hx.imp id And.left) (by rw [g.scp]; exact hx.elim (fun h => .inr h) fun h => .inl (g.fnc x h.2))) fun v σ H Q ⟨bs, G, ι, F, ρ, m, d, sr, hr, dx, h⟩ => ?_
  exact h _ ι F H (Ext.refl _ _) hr ⟨sr.set dx i, wipe_set hv⟩
theorem gsw_nil {vs : List Nat} : PGs X [] (tGsw Γ base vs fun ds ρ m => match ds with | [] => .ok ρ m | _ => .bad) := by
  refine PGs.imp pgs_nil fun us σ H Q ⟨bs, G, ι, F, ρ, m, ds, sr, hr, dx, h⟩ => ?_
  cases ds with
  | nil => exact ⟨dx, h σ ι F H (Ext.refl _ _) hr ⟨sr, rfl⟩⟩
  | cons d ds => exact h.elim
theorem gsw_cons {vs : List Nat} {g1 : D → Ev → MH → R Ev} {g2 : List D → Ev → MH → R Ev} (h1 : PG X e (tGw Γ base vs g1)) (h2 : PGs X es (tGsw Γ base vs g2)) (hs : noStar e = true) : PGs X (e :: es) (tGsw Γ base vs fun ds ρ m => match ds with | d :: ds => (g1 d ρ m).bind fun ρ m => g2 ds ρ m | [] => .bad) := by
  refine PGs.imp (pgs_cons h1 h2 (by rw [asg_cons hs]; rfl)) fun us σ H Q ⟨bs, G, ι, F, ρ, m, ds, sr, hr, dx, h⟩ => ?_
  cases ds with
  | nil => exact h.elim
  | cons d ds =>
    obtain ⟨v, r, rfl, dv, dr⟩ := dx
    refine ⟨v, r, rfl, bs, G, ι, F, ρ, m, d, sr, hr, dv, ?_⟩
    refine (Pst.bind (rel := fun ι F ρ' σ' => SR Γ ι F ρ' σ' ∧ L2.wipe σ' vs = L2.wipe σ vs) h).imp fun σ' H' ⟨ι1, F1, ρ1, m1, e1, hr1, ⟨sr1, w1⟩, h3⟩ => ?_
    refine ⟨bs, G, ι1, F1, ρ1, m1, ds, sr1, hr1, dr.mono e1, ?_⟩
    rw [w1]
    exact h3
theorem gw_tp {vs : List Nat} {k : Nat} {g1 : List D → Ev → MH → R Ev} (g : GoodX Γ P fa n N sc asg true X) (h1 : PGs X es (tGsw Γ base vs g1)) (hs : es.all noStar = true) : PG X (.Tuple es k pos) (tGw Γ base vs fun d ρ m => match d with
    | .tup ds => if ds.length = es.length then (g1 ds ρ m).nox else .bad
    | _ => .bad) := by
  refine PG.imp (pg_tup (n := es.length) (g.clm rfl) h1 (asg_all hs X.env).1 (asg_all hs X.env).2) fun v σ H Q ⟨bs, G, ι, F, ρ, m, d, sr, hr, dx, h⟩ => ?_
  simp only at h
  split at h
  · rename_i ds
    split at h
    · rename_i cl
      obtain ⟨ad, us, rfl, k1, dn⟩ := dx
      exact ⟨ad, us, rfl, by rw [← g.gx.K]; exact hr.f.seqT k1, by rw [← dn.length]; exact cl, bs, G, ι, F, ρ, m, ds, sr, hr, dn, Pst.ofNox h⟩
    · exact h.elim
  · exact h.elim
theorem GoodX.blk (g : GoodX Γ P fa n N sc asg cm X) (s : Shared) (H : Hp) (scope : Scope) (C : Addr) (cl : List (Str × Addr)) (fp : List Addr) : GoodX Γ P fa n N (L2.relS scope sc) (fun x => scope.names.lookup x == some .cell) cm (X.blk s H scope (compEnvC scope cl C X.env) fp) where
  gx := ⟨g.gx.K, g.gx.w, g.gx.u⟩
  gf := g.gf
  ge := g.ge
  nm := g.nm
  nd := g.nd
  dbg := g.dbg
  scp := by
    show relabel scope X.env = _
    rw [← g.scp]; rfl
  fnc := fun x h => h
  clm := g.clm
  room := g.room
  calls := g.calls
theorem bind_nox {α β : Type} (r : R α) (k : α → MH → R β) : (r.bind k).nox = r.nox.bind fun x m => (k x m).nox := by cases r <;> rfl
end
end Zi
set_option maxHeartbeats 4000000
/-! Z8e: list comprehensions. -/
namespace Zi
open PySem PySem.Spec PyProof.Rows L2
section
variable {X : Cx} {Γ : Gl0} {P : ZP} {fa : String → Addr} {n : Nat} {N : List Str} {sc : Scope} {asg : Str → Bool} {cm : Bool} {base : Nat} {W : WX} {a b c e o tg : Expr} {es : List Expr} {pos apos p tpos : Pos} {f f1 f2 f3 : Ev → MH → R D} {fs : Ev → MH → R (List D)}
theorem wipe_wipe (σ : L2.St) (vs : List Nat) : L2.wipe (L2.wipe σ vs) vs = L2.wipe σ vs := by
  have none_at : ∀ (vs : List Nat) (v : Nat), v ∈ vs → ∀ τ : L2.St, (L2.wipe τ vs).set v none = L2.wipe τ vs := by
    intro vs
    induction vs with
    | nil => intro v h; exact nomatch h
    | cons w vs ih =>
      intro v h τ
      show ((L2.wipe τ vs).set w none).set v none = (L2.wipe τ vs).set w none
      by_cases e : v = w
      · subst e; rw [List.set_set]
      · have hv : v ∈ vs := (List.mem_cons.mp h).resolve_left e
        rw [List.set_comm _ _ (Ne.symm e), ih v hv]
  have go : ∀ (ws vs : List Nat), (∀ w ∈ ws, w ∈ vs) → L2.wipe (L2.wipe σ vs) ws = L2.wipe σ vs := by
    intro ws
    induction ws with
    | nil => intro vs _; rfl
    | cons w ws ih =>
      intro vs h
      show (L2.wipe (L2.wipe σ vs) ws).set w none = _
      rw [ih vs fun x hx => h x (List.mem_cons_of_mem _ hx)]
      exact none_at vs w (h w List.mem_cons_self) σ
  exact go vs vs fun _ h => h
/-- a turn of a list comprehension -/
def turnL (gt : D → Ev → MH → R Ev) (tt : Ev → MH → R Bool) (fe : Ev → MH → R D) (ρ0 : Ev) (d : D) (m : MH) : R (Option D) := (gt d ρ0 m).bind fun ρ' m => (tt ρ' m).bind fun k m => if k = true then (fe ρ' m).bind fun y m => .ok (some y) m else .ok none m
theorem tLc_of {gi : Ev → MH → R It1} {gt : D → Ev → MH → R Ev} {tt : Ev → MH → R Bool} {fe : Ev → MH → R D} {fz : Bool} {vs : List Nat} {σ : L2.St} {H : Hp} {Q : VK}
    (h : tE Γ base W (fun ρ m => (gi ρ m).bind fun (q : It1) m => (compL (sameB q.2) (turnL gt tt fe (wipeE ρ vs)) q.1 [] m).nox.bind (mkL fz)) σ H Q) :
    tLc (tI Γ base W gi) (tGw Γ base vs gt) (tT Γ base (fun _ _ _ _ => False) tt) (tE Γ base (fun _ _ _ _ => False) fe) vs σ H Q := by
  obtain ⟨bs, G, ι, F, ρ, m, sr, hr, h⟩ := h
  refine ⟨bs, G, ι, F, ρ, m, sr, hr, (Pst.bind (rel := relI Γ base) h).imp fun J H1 ⟨ι1, F1, ⟨ds, lk⟩, m1, e1, hr1, sp, h1⟩ D hD => ?_⟩
  have sr1 := sr.mono e1
  have gf := hr1.fresh_of hD
  have h1 : Pst ⟨Γ, base, bs, G⟩ (Den Γ) ι1 F1 Q (fun cls d H' => W cls d σ H') ((compL (sameB lk) (turnL gt tt fe (wipeE ρ vs)) ds [] m1).nox.bind (mkL fz)) := h1
  refine ⟨fun i k H => i + k = ds.length ∧ ∃ ι F m acc us, Ext ι1 F1 ι F ∧ HR Γ base bs (upd G D (.lst us)) ι F m H ∧ Dens Γ ι F acc us ∧ Pst ⟨Γ, base, bs, G⟩ (Den Γ) ι F Q (fun cls d H' => W cls d σ H') ((compL (sameB lk) (turnL gt tt fe (wipeE ρ vs)) (ds.drop i) acc m).nox.bind (mkL fz)),
    ⟨ds.length, Nat.zero_add _, ι1, F1, m1, [], [], Ext.refl _ _, hr1.hold hD, rfl, h1⟩, ?_⟩
  clear h1 h hr hr1
  rintro i k H ⟨hik, ι', F', m', acc, us, ee, hr, dn, h⟩
  by_cases hi : i < ds.length
  · right
    have ed : ds.drop i = ds[i] :: ds.drop (i + 1) := List.drop_eq_getElem_cons hi
    rw [ed] at h
    unfold compL at h
    split at h
    · rename_i sm
      obtain ⟨go, yl⟩ := (sp i bs _ ι' F' m' H ee hr sm).1 hi
      refine ⟨go, fun H' => ∃ ι F m acc us, Ext ι1 F1 ι F ∧ HR Γ base bs (upd G D (.lst us)) ι F m H' ∧ Dens Γ ι F acc us ∧ Pst ⟨Γ, base, bs, G⟩ (Den Γ) ι F Q (fun cls d H' => W cls d σ H') ((compL (sameB lk) (turnL gt tt fe (wipeE ρ vs)) (ds.drop (i + 1)) acc m).nox.bind (mkL fz)),
        fun H' hn => ⟨k - 1, by omega, by omega, hn⟩, fun xv H' hy => ?_⟩
      obtain ⟨F2, d, e2, hr2, e3, dx⟩ := yl xv H' hy
      have ed2 : ds[i] = d := by rw [List.getElem?_eq_getElem hi] at e3; exact Option.some.inj e3
      rw [ed2] at h
      have h := Pst.world e2 h
      refine ⟨bs, _, ι', F2, wipeE ρ vs, m', d, (((sr1.mono ee).mono e2).wipe vs), hr2, dx, ?_⟩
      unfold turnL at h
      cases qg : gt d (wipeE ρ vs) m' with
      | bad => simp only [qg, Zi.R.bind_bad, Zi.R.nox_bad] at h; exact h.elim
      | exc _ _ _ => simp only [qg, Zi.R.bind_exc, Zi.R.nox_exc, Zi.R.bind_bad] at h; exact h.elim
      | ok ρ2 m2 =>
        simp only [qg, Zi.R.bind_ok] at h
        intro σ2 ι3 F3 H3 e4 hr4 ⟨sr4, w4⟩
        have h := Pst.world e4 h
        refine ⟨w4.trans (wipe_wipe σ vs), bs, _, ι3, F3, ρ2, m2, sr4, hr4, ?_⟩
        cases qt : tt ρ2 m2 with
        | bad => simp only [qt, Zi.R.bind_bad, Zi.R.nox_bad] at h; exact h.elim
        | exc _ _ _ => simp only [qt, Zi.R.bind_exc, Zi.R.nox_exc, Zi.R.bind_bad] at h; exact h.elim
        | ok k m3 =>
          simp only [qt, Zi.R.bind_ok] at h
          intro k' ι4 F4 H4 e5 hr5 ek
          have ek : k = k' := ek
          subst ek
          have h := Pst.world e5 h
          have e6 : Ext ι1 F1 ι4 F4 := ((ee.trans e2).trans e4).trans e5
          cases k with
          | false =>
            rw [if_neg Bool.false_ne_true] at h ⊢
            exact ⟨ι4, F4, m3, acc, us, e6, hr5, (((dn.mono e2).mono e4).mono e5), h⟩
          | true =>
            rw [if_pos rfl] at h ⊢
            refine ⟨bs, _, ι4, F4, ρ2, m3, sr4.mono e5, hr5, ?_⟩
            cases qe : fe ρ2 m3 with
            | bad => simp only [qe, Zi.R.bind_bad, Zi.R.nox_bad] at h; exact h.elim
            | exc _ _ _ => simp only [qe, Zi.R.bind_exc, Zi.R.nox_exc, Zi.R.bind_bad] at h; exact h.elim
            | ok y m4 =>
              simp only [qe, Zi.R.bind_ok] at h
              intro yv ι5 F5 H5 e7 hr7 dy
              have h := Pst.world e7 h
              split at h
              · rename_i cl
                refine ⟨us, hr7.held.1, by rw [← dn.length]; exact size_of_lt cl, ι5, F5, m4, acc ++ [y], us ++ [yv], e6.trans e7, hr7.regrasp, ((((dn.mono e2).mono e4).mono e5).mono e7).append (.one dy), h⟩
              · exact h.elim
    · exact h.elim
  · left
    have ed : ds.drop i = [] := List.drop_eq_nil_of_le (by omega)
    rw [ed] at h
    unfold compL at h
    split at h
    · rename_i sm
      refine ⟨(sp i bs _ ι' F' m' H ee hr sm).2 (by show ds.length ≤ i; omega), ?_⟩
      have h : Pst ⟨Γ, base, bs, G⟩ (Den Γ) ι' F' Q (fun cls d H' => W cls d σ H') (mkL fz acc m') := h
      unfold mkL at h
      split at h
      · cases fz with
        | true =>
          obtain ⟨e2, hr2⟩ := hr.give gf.1
          exact h (.ref D) ι' _ H e2 hr2 ⟨D, us, rfl, upd_same, dn.mono e2⟩
        | false =>
          have hr2 := hr.give2 gf.1 (ob := .lst acc) ⟨us, rfl, dn⟩
          exact h (.ref D) _ F' H (Ext.push D) hr2 ⟨D, rfl, by rw [← hr.len]; simp⟩
      · exact h.elim
    · exact h.elim
end
end Zi
set_option maxHeartbeats 4000000
/-! Z8f: dict comprehensions. -/
namespace Zi
open PySem PySem.Spec PyProof.Rows L2
section
variable {X : Cx} {Γ : Gl0} {P : ZP} {fa : String → Addr} {n : Nat} {N : List Str} {sc : Scope} {asg : Str → Bool} {cm : Bool} {base : Nat} {W : WX} {a b c e o tg : Expr} {es : List Expr} {pos apos p tpos : Pos} {f f1 f2 f3 : Ev → MH → R D} {fs : Ev → MH → R (List D)}
/-- a dict that is being made takes an entry -/
theorem dct_enter {pins : List (Addr × Obj)} {σ : L2.St} {s : Shared} {H : Hp} {ι : List Addr} {F : Hp} {E : Value → Shared → Prop} (g : Gx Γ X) (I : Inv X pins σ H s) (hS : Sub F H) {d : Addr} {t : Bool} {kvs : List (D × D)} {o : HO} {di dv : D} {x y : V} {u r : Value} {k : K2} {Q : Unit → Shared → Prop} (ha : H d = some o) (hd : DctDen Γ ι F d t kvs o)
    (hx : Den Γ ι F di x) (hy : Den Γ ι F dv y) (rx : RelV x u) (ry : RelV y r) (hk : keyFor t di = some k) (hl : kvs.length < SZ) (q : ∀ o' s', DctDen Γ ι F d t (dput kvs di k dv) o' → Inv X pins σ (upd H d o') s' → Q () s') : wpAny (model X.prog X.w) X.A (dictSet d u r) Q E s := by
  have hu := g.u
  rcases hd with ⟨rfl, es, rfl, hd⟩ | ⟨rfl, es, rfl, hd⟩
  · obtain ⟨qk, rfl, rfl⟩ := keyFor_f hk
    have ex := Den.key hx
    subst ex
    exact d_dictSet I ha (by rw [← hd.length]; exact size_of_lt hl) rx ry fun s' I' => q _ s' (.inl ⟨rfl, _, rfl, hd.put hy⟩) I'
  · obtain ⟨ds, qk, rfl, rfl, n0, n1, n2, n3⟩ := keyFor_t hk
    obtain ⟨z1, z2, vs, pt, dd⟩ := tdict_of I g.K g.w hS (.inl ha) hd
    obtain ⟨b, rfl, rfl, key⟩ := Den.keyed I g.K hS n1 n2 n3 hx rx
    refine wpAny_dictSet_heap (hsz := by rw [← Paired.length pt]; exact z1) (show X.A.units + 8 < cLine by omega) key dd fun h' dd' hs => ?_
    obtain ⟨es', i1, i2⟩ := hd.put pt n0 n2 hx hy ry
    refine q (tHO Γ.w d es') _ (.inr ⟨rfl, es', rfl, i1⟩) (tdict_write g I ha z2 dd' hs i2 ?_)
    rw [← i1.length]
    have : (dput kvs (.tup ds) (.tup qk) dv).length ≤ kvs.length + 1 := by
      unfold dput
      split
      · rw [List.length_map]; omega
      · rw [List.length_append]; exact Nat.le_refl _
    have := size_of_lt hl
    omega
/-- an empty dict -/
def o0 (Γ : Gl0) (t : Bool) (d : Addr) : HO := if t then tHO Γ.w d [] else .dK []
theorem o0_den {ι : List Addr} {F : Hp} {t : Bool} {d : Addr} : DctDen Γ ι F d t [] (o0 Γ t d) := by
  cases t with
  | false => exact .inl ⟨rfl, [], rfl, rfl⟩
  | true => exact .inr ⟨rfl, [], rfl, rfl⟩
theorem o0_ok {P : Program} {w : World} {H : Hp} {t : Bool} (hw : Γ.w = w) (h : Heap) (hb : sysModules < h.objs.size) : ObjOk P w H (h.push { cls := .type "dict", data := .dict #[] }) h.objs.size (o0 Γ t h.objs.size) := by
  cases t with
  | false => exact dk_empty h hb
  | true =>
    show ObjOk P w H _ _ (tHO Γ.w _ [])
    rw [hw]
    exact tHO_ok (tP_new (P := P) (vs := []) (Nat.zero_le _) (by simpa using Nat.ne_of_gt hb) .nil (Heap.DictOfH.new h))
/-- a store of an entry, wherever the same program runs -/
def DSt (X : Cx) (d : Addr) (y z : V) (H : Hp) (Nx : Hp → Prop) : Prop := ∀ (Y : Cx) (pins : List (Addr × Obj)) (σ : L2.St) (s : Shared) (u r : Value) (Q : Unit → Shared → Prop) (E : Value → Shared → Prop), Gx Γ Y → Inv Y pins σ H s → RelV y u → RelV z r →
  (∀ H' s', Inv Y pins σ H' s' → Nx H' → Q () s') → wpAny (model Y.prog Y.w) Y.A (dictSet d u r) Q E s
/-- {k: v for target in iter if ..}: d the new dict -/
def tDz (Γ : Gl0) (X : Cx) (t : Bool) (wi : TI) (g : TG) (tt : TT) (tk tv : TE) (vs : List Nat) : TE := fun σ H Q => wi σ H fun J H1 => ∀ d, H1 d = none → ∃ W : Nat → Nat → Hp → Prop, (∃ m, W 0 m (upd H1 d (o0 Γ t d))) ∧ ∀ i m H, W i m H →
  (J.stop i H ∧ Q (.ref d) H) ∨ (J.go i H ∧ ∃ Nx : Hp → Prop, (∀ H', Nx H' → ∃ m', m' < m ∧ W (i + 1) m' H') ∧ ∀ x H', J.yld i H x H' → g x (L2.wipe σ vs) H' fun σ2 H2 => L2.wipe σ2 vs = L2.wipe σ vs ∧ tt σ2 H2 fun b H3 =>
    if b = true then tk σ2 H3 fun y H4 => tv σ2 H4 fun z H5 => DSt (Γ := Γ) X d y z H5 Nx else Nx H3)
theorem dz_core {pins : List (Addr × Obj)} {s : Shared} {σ : L2.St} {H : Hp} {Q : VK} {kx vx tg iter : Expr} {ifs : List Expr} {scope : Scope} {own : List (Str × Nat)} {pos pos' : Pos} {t : Bool} {wi : TI} {g : TG} {tt : TT} {tk tv : TE} {use : Option (Value → Sem Unit)} {Qf : Value → Shared → Prop}
    (gx : Gx Γ X) (hc : X.calm = true) (hN : X.N.Nodup) (I : Inv X pins σ H s) (hi : PI X tg iter wi) (ok : BlkOk X.N X.env.scope scope own)
    (hg : ∀ (s : Shared) (H : Hp) (C : Addr) (cl : List (Str × Addr)) (fp : List Addr), PG (X.blk s H scope (compEnvC scope cl C X.env) fp) tg g) (ht : ∀ (s : Shared) (H : Hp) (C : Addr) (cl : List (Str × Addr)) (fp : List Addr), PTs (X.blk s H scope (compEnvC scope cl C X.env) fp) ifs tt)
    (hk : ∀ (s : Shared) (H : Hp) (C : Addr) (cl : List (Str × Addr)) (fp : List Addr), PE (X.blk s H scope (compEnvC scope cl C X.env) fp) kx tk)
    (he : ∀ (s : Shared) (H : Hp) (C : Addr) (cl : List (Str × Addr)) (fp : List Addr), PE (X.blk s H scope (compEnvC scope cl C X.env) fp) vx tv) (hs : ∀ x, foldedSetIterable iter X.env x = Pure.pure x)
    (h : tDz Γ X t wi g tt tk tv (own.map (·.2)) σ H Q)
    (fin : ∀ d C s' m H', Inv X pins σ H' s' → Q (.ref d) H' → s'.heap.Ns C m → FpOk X pins H' C → compPost (model X.prog X.w) X.A X.xe use Qf (.ref d) C (.ok .next) s') :
    wpAny (model X.prog X.w) X.A (comprehension (.DictComp kx vx [⟨tg, iter, ifs, 0⟩] scope pos) scope X.env pos' newDict false (eval iter X.env) use) Qf X.xe s := by
  have free : ∀ y ∈ scope.names, y.2 = .free → ∃ c, X.env.cells.lookup y.1 = some c := fun y hy e =>
    (ok.free y hy e).elim (fun k => I.ok.has _ (.inl k)) fun k => I.ok.has _ (.inr k)
  refine wpAny_comprehension_free (use := use) rfl hs (closure_ok free) ok.kind (fun y hy e => by rw [ok.uniq y hy, e])
    (thn (hi.run pins s σ H _ I h) fun xv s1 hx => thn hx fun itv s2 h2 => ?_)
  obtain ⟨it, fp, tn, J, H2, rfl, I2, T, st2, f2, q⟩ := h2
  refine wpAny_newObj_type (newEnv_comp ?_)
  obtain ⟨d, hdE⟩ : ∃ d, d = s2.heap.objs.size := ⟨_, rfl⟩
  rw [← hdE]
  have dn : H2 d = none := I2.hok.fresh (Nat.le_of_eq hdE.symm)
  obtain ⟨W, ⟨m0, w0⟩, turn⟩ := q d dn
  obtain ⟨s3, es3⟩ : ∃ s3 : Shared, s3 = { s2 with heap := s2.heap.push { cls := .type "dict", data := .dict #[] } } := ⟨_, rfl⟩
  have e3 : s3.heap = s2.heap.push { cls := .type "dict", data := .dict #[] } := by rw [es3]
  have I3 : Inv X pins σ (upd H2 d (o0 Γ t d)) s3 := by
    rw [es3]
    refine I2.laid (t' := s2.toks) (fun b o e => Heap.get?_push_of_some _ e) (Nat.le_of_eq hdE.symm) ?_
    rw [hdE]
    exact o0_ok gx.w s2.heap I2.big
  have small : ∀ b ∈ fp, b < s2.heap.objs.size := fun b hb => let ⟨_, e, _⟩ := T.obj _ _ st2 b hb; Heap.lt_size e
  have f3 : ∀ b ∈ fp, FpOk X pins (upd H2 d (o0 Γ t d)) b ∧ b < s3.heap.objs.size := fun b hb => by
    have lt := small b hb
    refine ⟨⟨?_, (f2 b hb).2⟩, by rw [e3, Heap.size_push]; exact Nat.lt_succ_of_lt lt⟩
    rw [upd_ne (by rw [hdE]; exact Nat.ne_of_lt lt)]
    exact (f2 b hb).1
  have st3 : tn 0 s3.heap := T.keep _ _ _ st2 fun b _ o e => by rw [e3]; exact Heap.get?_push_of_some _ e
  have I4 := block_start I3 ok hN f3
  obtain ⟨H3, eH3⟩ : ∃ H3, H3 = upd H2 d (o0 Γ t d) := ⟨_, rfl⟩
  obtain ⟨cl, ecl⟩ : ∃ cl, cl = cellsFrom (s3.heap.objs.size + 1) scope.names (cloFrom X.env.cells scope.names []) := ⟨_, rfl⟩
  obtain ⟨ce, ece⟩ : ∃ ce, ce = compEnvC scope cl s3.heap.objs.size X.env := ⟨_, rfl⟩
  have pg := hg s3 H3 s3.heap.objs.size cl fp
  have pt := ht s3 H3 s3.heap.objs.size cl fp
  have pk := hk s3 H3 s3.heap.objs.size cl fp
  have pe := he s3 H3 s3.heap.objs.size cl fp
  rw [← eH3] at I3 I4 w0 f3
  rw [← ecl, ← ece] at I4
  rw [← ece] at pg pt pk pe
  rw [← es3, ← ecl]
  show codeAny _ _ (.compStart (.DictComp kx vx [⟨tg, iter, ifs, 0⟩] scope pos) 0 (.ref it) (.ref d) (compEnvC scope cl s3.heap.objs.size X.env)) (compPost (model X.prog X.w) X.A X.xe use Qf (.ref d) s3.heap.objs.size) _
  rw [← ece]
  have cL : ce.locals = s3.heap.objs.size := by rw [ece]; rfl
  obtain ⟨s4, es4⟩ : ∃ s4 : Shared, s4 = { s3 with heap := pushCells (s3.heap.push { cls := .type "dict", data := .dict #[] }) scope.names } := ⟨_, rfl⟩
  rw [← es4] at I4
  show codeAny _ _ _ _ { s3 with heap := pushCells (s3.heap.push { cls := .type "dict", data := .dict #[] }) scope.names }
  rw [← es4]
  have nfp : ∀ b ∈ fp, H3 b = none := fun b hb => (f3 b hb).1.1
  have st4 : tn 0 s4.heap := T.keep _ _ _ st3 fun b _ o e => by rw [es4]; exact pushCells_keeps _ _ _ _ (Heap.get?_push_of_some _ e)
  have own' : ∀ {σ' : L2.St} {H' : Hp} {s' : Shared}, Inv (X.blk s3 H3 scope ce fp) [] σ' H' s' → (∀ b ∈ fp, H' b = none) → ∀ b ∈ fp, FpOk (X.blk s3 H3 scope ce fp) [] H' b := fun {σ' H' s'} I' hn b hb =>
    ⟨hn b hb, (I'.ok.exf b hb).1, I'.ok.exfs b hb, .inl hb, fun x c e => (I'.ok.exf b hb).2 x c e, fun p hp => absurd (show p ∈ ([] : List (Addr × Obj)) ++ [] from hp) (by simp)⟩
  have gxb : Gx Γ (X.blk s3 H3 scope ce fp) := ⟨gx.K, gx.w, gx.u⟩
  have loop : codeAny (model X.prog X.w) X.A (.compLoop (.DictComp kx vx [⟨tg, iter, ifs, 0⟩] scope pos) 0 (.ref it) (.ref d) ce) (compPost (model X.prog X.w) X.A X.xe use Qf (.ref d) s3.heap.objs.size) s4 := by
    refine compLoop_anyD (fun n s' => ∃ i H', Inv (X.blk s3 H3 scope ce fp) [] (L2.wipe σ (own.map (·.2))) H' s' ∧ tn i s'.heap ∧ (∀ b ∈ fp, H' b = none) ∧ W i n H') ?_ m0 ⟨0, H3, I4, st4, nfp, w0⟩
    rintro k s5 ⟨i, H5, I5, st5, n5, w5⟩
    rcases turn i k H5 w5 with ⟨stop, qq⟩ | ⟨go, Nx, hNx, step⟩
    · refine thnF (T.done (X.blk s3 H3 scope ce fp) rfl rfl rfl hc i [] s5 _ H5 (fun _ _ => False) I5 (own' I5 n5) st5 stop) fun r s6 ⟨hr, I6⟩ => ?_
      subst hr
      have I7 : Inv X pins σ H5 s6 := I3.call' (ch := fp) I6.os I6.base I6.hok I6.bare fun b hb => ⟨(f3 b hb).1.2.2.2.1, (f3 b hb).1.2.1, (f3 b hb).1.2.2.2.2.1, (f3 b hb).1.2.2.2.2.2⟩
      have nC : H5 s3.heap.objs.size = none := by rw [← cL]; exact I6.free
      obtain ⟨mm, hn, _⟩ := I6.loc
      have hn : s6.heap.Ns ce.locals mm := hn
      rw [cL] at hn
      exact fin d s3.heap.objs.size s6 mm H5 I7 qq hn (I3.fpOk (Nat.le_refl _) nC)
    · refine thnF (T.item (X.blk s3 H3 scope ce fp) rfl rfl rfl hc i [] s5 _ H5 (fun _ _ => False) I5 (own' I5 n5) st5 go) fun r s6 ⟨u, hr, h6⟩ => ?_
      subst hr
      refine thnF h6 fun _ s7 ⟨x, H7, I7, r7, y7, st7, n7⟩ => ?_
      have I7' := I7.pinned (own' I7 n7) (T.obj _ _ st7)
      refine thnF (pg.run _ s7 _ H7 x u _ I7' r7 (step x H7 y7)) fun _ s8 ⟨σ8, H8, I8, w8, q8⟩ => ?_
      refine thnF (pt.run _ s8 σ8 H8 _ I8 q8) fun b s9 ⟨H9, I9, q9⟩ => ?_
      have on : ∀ {s' : Shared} {H' : Hp}, Inv (X.blk s3 H3 scope ce fp) ([] ++ pinsAt fp s7.heap) σ8 H' s' → Nx H' → ∃ m, m < k ∧ ∃ i H', Inv (X.blk s3 H3 scope ce fp) [] (L2.wipe σ (own.map (·.2))) H' s' ∧ tn i s'.heap ∧ (∀ b ∈ fp, H' b = none) ∧ W i m H' := fun {s' H'} I' nx => by
        obtain ⟨m', hm, w'⟩ := hNx H' nx
        have still : ∀ b ∈ fp, ∀ o, s7.heap.get? b = some o → s'.heap.get? b = some o ∧ H' b = none := fun b hb o e =>
          let z := I'.pin (b, o) (List.mem_append_right _ (List.mem_append_right _ (mem_pinsAt hb e)))
          ⟨z.1, z.2.1⟩
        refine ⟨m', hm, i + 1, H', (I'.unpinned (pins := [])).weak (by rw [← w8, wipe_length]) (fun j v e => ?_), T.keep _ _ _ st7 fun b hb o e => (still b hb o e).1, fun b hb => ?_, w'⟩
        · rw [← w8] at e
          exact (wipe_some e).1
        · obtain ⟨o, e, _⟩ := T.obj _ _ st7 b hb
          exact (still b hb o e).2
      cases b with
      | false =>
        simp only [Bool.false_eq_true, if_false] at q9 ⊢
        exact on I9 q9
      | true =>
        simp only [if_true] at q9 ⊢
        refine thnF (pk.run _ s9 σ8 H9 _ I9 q9) fun z s10 ⟨yk, H10, I10, r10, q10⟩ => ?_
        refine thnF (pe.run _ s10 σ8 H10 _ I10 q10) fun z2 s11 ⟨yv, H11, I11, r11, q11⟩ => ?_
        exact q11 (X.blk s3 H3 scope ce fp) _ σ8 s11 _ _ _ _ gxb I11 r10 r11 fun H12 s12 I12 nx => on I12 nx
  exact codeAny_compStart_dict loop (T.self X.A 0 _ _ _ st4 loop)
end
end Zi
set_option maxHeartbeats 4000000
/-! Z8g: comprehensions by the model. -/
namespace Zi
open PySem PySem.Spec PyProof.Rows L2
section
variable {X : Cx} {Γ : Gl0} {P : ZP} {fa : String → Addr} {n : Nat} {N : List Str} {sc : Scope} {asg : Str → Bool} {cm : Bool} {base : Nat} {W : WX} {a b c e o tg elt kx vx iter : Expr} {es ifs : List Expr} {pos apos p tpos spos py : Pos} {f f1 f2 f3 fk fv : Ev → MH → R D} {fs : Ev → MH → R (List D)}
abbrev noW : WX := fun _ _ _ _ => False
/-- a turn of a dict comprehension -/
def turnK (gt : D → Ev → MH → R Ev) (tt : Ev → MH → R Bool) (fk fv : Ev → MH → R D) (ρ0 : Ev) (d : D) (m : MH) : R (Option (D × D)) := (gt d ρ0 m).bind fun ρ' m => (tt ρ' m).bind fun k m => if k = true then (fk ρ' m).bind fun x m => (fv ρ' m).bind fun y m => .ok (some (x, y)) m else .ok none m
theorem tDz_of (gx : Gx Γ X) {gi : Ev → MH → R It1} {gt : D → Ev → MH → R Ev} {tt : Ev → MH → R Bool} {fz t : Bool} {vs : List Nat} {σ : L2.St} {H : Hp} {Q : VK}
    (h : tE Γ base W (fun ρ m => (gi ρ m).bind fun (q : It1) m => (compK t (sameB q.2) (turnK gt tt fk fv (wipeE ρ vs)) q.1 [] m).nox.bind (mkK fz t)) σ H Q) :
    tDz Γ X t (tI Γ base W gi) (tGw Γ base vs gt) (tT Γ base noW tt) (tE Γ base noW fk) (tE Γ base noW fv) vs σ H (fun v H' => Lks (match v with | .ref d => if fz = true then [d] else [] | _ => []) H' (Q v)) := by
  obtain ⟨bs, G, ι, F, ρ, m, sr, hr, h⟩ := h
  refine ⟨bs, G, ι, F, ρ, m, sr, hr, (Pst.bind (rel := relI Γ base) h).imp fun J H1 ⟨ι1, F1, ⟨ds, lk⟩, m1, e1, hr1, sp, h1⟩ d0 hD => ?_⟩
  have sr1 := sr.mono e1
  have gf := hr1.fresh_of hD
  have h1 : Pst ⟨Γ, base, bs, G⟩ (Den Γ) ι1 F1 Q (fun cls d H' => W cls d σ H') ((compK t (sameB lk) (turnK gt tt fk fv (wipeE ρ vs)) ds [] m1).nox.bind (mkK fz t)) := h1
  refine ⟨fun i k H => i + k = ds.length ∧ ∃ ι F m kvs o, Ext ι1 F1 ι F ∧ HR Γ base bs (upd G d0 o) ι F m H ∧ DctDen Γ ι F d0 t kvs o ∧ Pst ⟨Γ, base, bs, G⟩ (Den Γ) ι F Q (fun cls d H' => W cls d σ H') ((compK t (sameB lk) (turnK gt tt fk fv (wipeE ρ vs)) (ds.drop i) kvs m).nox.bind (mkK fz t)),
    ⟨ds.length, Nat.zero_add _, ι1, F1, m1, [], _, Ext.refl _ _, hr1.hold hD, o0_den, h1⟩, ?_⟩
  clear h1 h hr hr1
  rintro i k H ⟨hik, ι', F', m', kvs, o, ee, hr, dn, h⟩
  by_cases hi : i < ds.length
  · right
    have ed : ds.drop i = ds[i] :: ds.drop (i + 1) := List.drop_eq_getElem_cons hi
    rw [ed] at h
    unfold compK at h
    split at h
    · rename_i sm
      obtain ⟨go, yl⟩ := (sp i bs _ ι' F' m' H ee hr sm).1 hi
      refine ⟨go, fun H' => ∃ ι F m kvs o, Ext ι1 F1 ι F ∧ HR Γ base bs (upd G d0 o) ι F m H' ∧ DctDen Γ ι F d0 t kvs o ∧ Pst ⟨Γ, base, bs, G⟩ (Den Γ) ι F Q (fun cls d H' => W cls d σ H') ((compK t (sameB lk) (turnK gt tt fk fv (wipeE ρ vs)) (ds.drop (i + 1)) kvs m).nox.bind (mkK fz t)),
        fun H' hn => ⟨k - 1, by omega, by omega, hn⟩, fun xv H' hy => ?_⟩
      obtain ⟨F2, d, e2, hr2, e3, dx⟩ := yl xv H' hy
      have ed2 : ds[i] = d := by rw [List.getElem?_eq_getElem hi] at e3; exact Option.some.inj e3
      rw [ed2] at h
      have h := Pst.world e2 h
      refine ⟨bs, _, ι', F2, wipeE ρ vs, m', d, (((sr1.mono ee).mono e2).wipe vs), hr2, dx, ?_⟩
      unfold turnK at h
      cases qg : gt d (wipeE ρ vs) m' with
      | bad => simp only [qg, Zi.R.bind_bad, Zi.R.nox_bad] at h; exact h.elim
      | exc _ _ _ => simp only [qg, Zi.R.bind_exc, Zi.R.nox_exc, Zi.R.bind_bad] at h; exact h.elim
      | ok ρ2 m2 =>
        simp only [qg, Zi.R.bind_ok] at h
        intro σ2 ι3 F3 H3 e4 hr4 ⟨sr4, w4⟩
        have h := Pst.world e4 h
        refine ⟨w4.trans (wipe_wipe σ vs), bs, _, ι3, F3, ρ2, m2, sr4, hr4, ?_⟩
        cases qt : tt ρ2 m2 with
        | bad => simp only [qt, Zi.R.bind_bad, Zi.R.nox_bad] at h; exact h.elim
        | exc _ _ _ => simp only [qt, Zi.R.bind_exc, Zi.R.nox_exc, Zi.R.bind_bad] at h; exact h.elim
        | ok k m3 =>
          simp only [qt, Zi.R.bind_ok] at h
          intro k' ι4 F4 H4 e5 hr5 ek
          have ek : k = k' := ek
          subst ek
          have h := Pst.world e5 h
          have e6 : Ext ι1 F1 ι4 F4 := ((ee.trans e2).trans e4).trans e5
          cases k with
          | false =>
            rw [if_neg Bool.false_ne_true] at h ⊢
            exact ⟨ι4, F4, m3, kvs, o, e6, hr5, (((dn.mono e2).mono e4).mono e5), h⟩
          | true =>
            rw [if_pos rfl] at h ⊢
            refine ⟨bs, _, ι4, F4, ρ2, m3, sr4.mono e5, hr5, ?_⟩
            cases qe : fk ρ2 m3 with
            | bad => simp only [qe, Zi.R.bind_bad, Zi.R.nox_bad] at h; exact h.elim
            | exc _ _ _ => simp only [qe, Zi.R.bind_exc, Zi.R.nox_exc, Zi.R.bind_bad] at h; exact h.elim
            | ok y m4 =>
              simp only [qe, Zi.R.bind_ok] at h
              intro yv ι5 F5 H5 e7 hr7 dy
              have h := Pst.world e7 h
              refine ⟨bs, _, ι5, F5, ρ2, m4, (sr4.mono e5).mono e7, hr7, ?_⟩
              cases qv : fv ρ2 m4 with
              | bad => simp only [qv, Zi.R.bind_bad, Zi.R.nox_bad] at h; exact h.elim
              | exc _ _ _ => simp only [qv, Zi.R.bind_exc, Zi.R.nox_exc, Zi.R.bind_bad] at h; exact h.elim
              | ok z m5 =>
                simp only [qv, Zi.R.bind_ok] at h
                intro zv ι6 F6 H6 e8 hr8 dz
                have h := Pst.world e8 h
                have dn6 := ((((dn.mono e2).mono e4).mono e5).mono e7).mono e8
                split at h
                · rename_i q eq
                  split at h
                  · rename_i cl
                    intro Y pins σY sY u r QY EY gY IY ry rz fin
                    exact dct_enter gY IY hr8.f hr8.held.1 dn6 (dy.mono e8) dz ry rz eq cl fun o' s' d' I' => fin _ s' I' ⟨ι6, F6, m5, _, o', (e6.trans e7).trans e8, hr8.regrasp, d', h⟩
                  · exact h.elim
                · exact h.elim
    · exact h.elim
  · left
    have ed : ds.drop i = [] := List.drop_eq_nil_of_le (by omega)
    rw [ed] at h
    unfold compK at h
    split at h
    · rename_i sm
      refine ⟨(sp i bs _ ι' F' m' H ee hr sm).2 (by show ds.length ≤ i; omega), ?_⟩
      have h : Pst ⟨Γ, base, bs, G⟩ (Den Γ) ι' F' Q (fun cls d H' => W cls d σ H') (mkK fz t kvs m') := h
      unfold mkK at h
      split at h
      · cases fz with
        | true =>
          refine ⟨o, hr.held.1, dn.mut, fun od => ?_⟩
          have hr' : HR Γ base bs (upd G d0 (.frz od o)) ι' F' m' (upd H d0 (.frz od o)) := hr.regrasp
          obtain ⟨e2, hr2⟩ := hr'.give gf.1
          refine h (.ref d0) ι' _ _ e2 hr2 ⟨d0, rfl, ?_⟩
          rcases dn with ⟨rfl, es, rfl, dd⟩ | ⟨rfl, es, rfl, dd⟩
          · exact .inl ⟨rfl, od, es, upd_same, dd.mono e2⟩
          · exact .inr ⟨rfl, od, es, upd_same, dd.mono e2⟩
        | false =>
          have hr2 := hr.give2 gf.1 (ob := .dct t kvs) dn
          exact h (.ref d0) _ F' H (Ext.push d0) hr2 ⟨d0, rfl, by rw [← hr.len]; simp⟩
      · exact h.elim
    · exact h.elim
/-! ### as values -/
theorem takes_no {X : Cx} : Takes X noW := takes_none5
theorem z_lc {scope : Scope} {own : List (Str × Nat)} {fz : Bool} {gi : Ev → MH → R It1} {gt : D → Ev → MH → R Ev} {tt : Ev → MH → R Bool} (g : GoodX Γ P fa n N sc asg true X) (hi : PI X tg iter (tI Γ base W gi)) (ok : blkC N sc scope own = true)
    (hg : ∀ (s : Shared) (H : Hp) (C : Addr) (cl : List (Str × Addr)) (fp : List Addr), PG (X.blk s H scope (compEnvC scope cl C X.env) fp) tg (tGw Γ base (own.map (·.2)) gt)) (ht : ∀ (s : Shared) (H : Hp) (C : Addr) (cl : List (Str × Addr)) (fp : List Addr), PTs (X.blk s H scope (compEnvC scope cl C X.env) fp) ifs (tT Γ base noW tt))
    (he : ∀ (s : Shared) (H : Hp) (C : Addr) (cl : List (Str × Addr)) (fp : List Addr), PE (X.blk s H scope (compEnvC scope cl C X.env) fp) elt (tE Γ base noW f)) (hs : noSet iter = true) :
    PE X (.ListComp elt [⟨tg, iter, ifs, 0⟩] scope pos) (tE Γ base W (fun ρ m => (gi ρ m).bind fun (q : It1) m => (compL (sameB q.2) (turnL gt tt f (wipeE ρ (own.map (·.2)))) q.1 [] m).nox.bind (mkL fz))) :=
  PE.imp (pe_lc (g.clm rfl) (by rw [g.nm]; exact g.nd) hi (by rw [g.nm, g.scp]; exact blkOk_by ok) hg ht he (folded hs X.env)) fun σ H Q h => tLc_of h
theorem z_dc {scope : Scope} {own : List (Str × Nat)} {fz t : Bool} {gi : Ev → MH → R It1} {gt : D → Ev → MH → R Ev} {tt : Ev → MH → R Bool} (g : GoodX Γ P fa n N sc asg true X) (hi : PI X tg iter (tI Γ base W gi)) (ok : blkC N sc scope own = true)
    (hg : ∀ (s : Shared) (H : Hp) (C : Addr) (cl : List (Str × Addr)) (fp : List Addr), PG (X.blk s H scope (compEnvC scope cl C X.env) fp) tg (tGw Γ base (own.map (·.2)) gt)) (ht : ∀ (s : Shared) (H : Hp) (C : Addr) (cl : List (Str × Addr)) (fp : List Addr), PTs (X.blk s H scope (compEnvC scope cl C X.env) fp) ifs (tT Γ base noW tt))
    (hk : ∀ (s : Shared) (H : Hp) (C : Addr) (cl : List (Str × Addr)) (fp : List Addr), PE (X.blk s H scope (compEnvC scope cl C X.env) fp) kx (tE Γ base noW fk)) (he : ∀ (s : Shared) (H : Hp) (C : Addr) (cl : List (Str × Addr)) (fp : List Addr), PE (X.blk s H scope (compEnvC scope cl C X.env) fp) vx (tE Γ base noW fv)) (hs : noSet iter = true) :
    PE X (.DictComp kx vx [⟨tg, iter, ifs, 0⟩] scope pos) (tE Γ base W (fun ρ m => (gi ρ m).bind fun (q : It1) m => (compK t (sameB q.2) (turnK gt tt fk fv (wipeE ρ (own.map (·.2)))) q.1 [] m).nox.bind (mkK fz t))) := by
  refine ⟨fun pins s σ H Q I h => ?_⟩
  have h2 := tDz_of (X := X) g.gx h
  rw [arm_eval_DictComp]
  refine dz_core g.gx (g.clm rfl) (by rw [g.nm]; exact g.nd) I hi (by rw [g.nm, g.scp]; exact blkOk_by ok) hg ht hk he (folded hs X.env) h2 fun d C s' m H' I' q hn fp => ⟨m, hn, fun h'' sb => ?_⟩
  obtain ⟨u0, u1, u2, u3, u4, u5⟩ := fp
  have I2 := I'.turned (t' := s'.toks) (fun b o hb e => (sb.2 b hb).trans e) u0 u1 u3 u4 u5
  obtain ⟨H2, I3, q3⟩ := lks_run _ H' I2 q
  exact ⟨.ref d, H2, I3, rfl, q3⟩
/-! ### set to a name at once -/
theorem s_setLc {i : Nat} {y : Str} {scope : Scope} {own : List (Str × Nat)} {fz : Bool} {gi : Ev → MH → R It1} {gt : D → Ev → MH → R Ev} {tt : Ev → MH → R Bool} (g : GoodX Γ P fa n N sc asg true X) (hy : N[i]? = some y) (hyl : sc.names.lookup y = some .local)
    (hsw : swapsWith (.ListComp elt [⟨tg, iter, ifs, 0⟩] scope pos) (some (.Name y py)) spos.line X.env = Pure.pure true) (hi : PI X tg iter (tI Γ base W gi)) (ok : blkC N sc scope own = true)
    (hg : ∀ (s : Shared) (H : Hp) (C : Addr) (cl : List (Str × Addr)) (fp : List Addr), PG (X.blk s H scope (compEnvC scope cl C X.env) fp) tg (tGw Γ base (own.map (·.2)) gt)) (ht : ∀ (s : Shared) (H : Hp) (C : Addr) (cl : List (Str × Addr)) (fp : List Addr), PTs (X.blk s H scope (compEnvC scope cl C X.env) fp) ifs (tT Γ base noW tt))
    (he : ∀ (s : Shared) (H : Hp) (C : Addr) (cl : List (Str × Addr)) (fp : List Addr), PE (X.blk s H scope (compEnvC scope cl C X.env) fp) elt (tE Γ base noW f)) (hs : noSet iter = true) :
    PS X (.Assign [.Name y py] (.ListComp elt [⟨tg, iter, ifs, 0⟩] scope pos) spos) (tSZ Γ base W fun ρ m => ((gi ρ m).bind fun (q : It1) m => (compL (sameB q.2) (turnL gt tt f (wipeE ρ (own.map (·.2)))) q.1 [] m).nox.bind (mkL fz)).st ρ fun x m => .ok (.nx (ρ.set i (some x))) m) := by
  refine PS.imp (ps_setLc (g.clm rfl) (by rw [g.nm]; exact g.nd) (by rw [g.nm]; exact hy) (by rw [g.scp]; exact hyl) hsw hi (by rw [g.nm, g.scp]; exact blkOk_by ok) hg ht he (folded hs X.env)) fun D σ H ⟨bs, G, ι, F, ρ, m, sr, hr, h⟩ => ?_
  refine tLc_of (fz := fz) ⟨bs, G, ι, F, ρ, m, sr, hr, (PstS.st (rel := Den Γ) hr.baseLe sr h).imp fun x H1 ⟨ι1, F1, d, m1, e1, hr1, dx, sr1, h1⟩ => ?_⟩
  exact PstS.nx hr1 (sr1.set dx i) h1
theorem s_setDc {i : Nat} {y : Str} {scope : Scope} {own : List (Str × Nat)} {fz t : Bool} {gi : Ev → MH → R It1} {gt : D → Ev → MH → R Ev} {tt : Ev → MH → R Bool} (g : GoodX Γ P fa n N sc asg true X) (hy : N[i]? = some y) (hyl : sc.names.lookup y = some .local)
    (hsw : swapsWith (.DictComp kx vx [⟨tg, iter, ifs, 0⟩] scope pos) (some (.Name y py)) spos.line X.env = Pure.pure true) (hi : PI X tg iter (tI Γ base W gi)) (ok : blkC N sc scope own = true)
    (hg : ∀ (s : Shared) (H : Hp) (C : Addr) (cl : List (Str × Addr)) (fp : List Addr), PG (X.blk s H scope (compEnvC scope cl C X.env) fp) tg (tGw Γ base (own.map (·.2)) gt)) (ht : ∀ (s : Shared) (H : Hp) (C : Addr) (cl : List (Str × Addr)) (fp : List Addr), PTs (X.blk s H scope (compEnvC scope cl C X.env) fp) ifs (tT Γ base noW tt))
    (hk : ∀ (s : Shared) (H : Hp) (C : Addr) (cl : List (Str × Addr)) (fp : List Addr), PE (X.blk s H scope (compEnvC scope cl C X.env) fp) kx (tE Γ base noW fk)) (he : ∀ (s : Shared) (H : Hp) (C : Addr) (cl : List (Str × Addr)) (fp : List Addr), PE (X.blk s H scope (compEnvC scope cl C X.env) fp) vx (tE Γ base noW fv)) (hs : noSet iter = true) :
    PS X (.Assign [.Name y py] (.DictComp kx vx [⟨tg, iter, ifs, 0⟩] scope pos) spos) (tSZ Γ base W fun ρ m => ((gi ρ m).bind fun (q : It1) m => (compK t (sameB q.2) (turnK gt tt fk fv (wipeE ρ (own.map (·.2)))) q.1 [] m).nox.bind (mkK fz t)).st ρ fun x m => .ok (.nx (ρ.set i (some x))) m) := by
  refine ⟨fun pins s σ H D I ⟨bs, G, ι, F, ρ, m, sr, hr, h⟩ => ?_⟩
  have h2 := tDz_of (X := X) (fz := fz) (t := t) (Q := fun x H1 => D.nx (σ.set i (some x)) H1) g.gx ⟨bs, G, ι, F, ρ, m, sr, hr, (PstS.st (rel := Den Γ) hr.baseLe sr h).imp fun x H1 ⟨ι1, F1, d, m1, e1, hr1, dx, sr1, h1⟩ => PstS.nx hr1 (sr1.set dx i) h1⟩
  rw [exec_Assign_Name_used _ _ _ _ hsw]
  refine wpAny_bind (wpAny_standAt (wpAny_bind ?_))
  show wpAny _ X.A (do let _ ← comprehension (.DictComp kx vx [⟨tg, iter, ifs, 0⟩] scope pos) scope X.env (firstIterPos [⟨tg, iter, ifs, 0⟩] pos) newDict false (eval iter X.env) (some (assign (.Name y py) X.env))) _ _ s
  refine wpAny_bind (thn (dz_core (Qf := fun _ s' => SP X pins D .next s') g.gx (g.clm rfl) (by rw [g.nm]; exact g.nd) I hi (by rw [g.nm, g.scp]; exact blkOk_by ok) hg ht hk he (folded hs X.env) h2 fun d C s' mm H' I' q hn fp => ?_) fun _ s' hq => wpAny_pure (wpAny_pure hq))
  show wpAny _ _ (assign (.Name y py) X.env (.ref d)) _ _ _
  refine wpAny_assign_Name (store_ok2 (v := V.ref d) I' (by rw [g.nm]; exact g.nd) (by rw [g.nm]; exact hy) (.inl (by rw [g.scp]; exact hyl)) rfl (fun s2 I2 ⟨w, sb, hw⟩ => ?_) (.inr (by rw [g.scp]; exact hyl)))
  obtain ⟨u0, u1, u2, u3, u4, u5⟩ := fp
  have apart : C ≠ w := fun e => hw.elim (fun z => u1 (e.trans z)) fun z => u4 y w z e.symm
  refine ⟨mm, hn.sameBut sb apart, fun h3 sb3 => ?_⟩
  have I3 := I2.turned (t' := s2.toks) (fun b o hb e => (sb3.2 b hb).trans e) u0 u1 u3 u4 u5
  obtain ⟨H4, I4, q4⟩ := lks_run _ H' I3 q
  exact ⟨_, H4, I4, q4⟩
end
end Zi
set_option maxHeartbeats 4000000
/-! Z9: the checker: the compact program says what the row's tree says. -/
namespace Zi
open PySem PySem.Spec PyProof.Rows L2
def glB (sc : Scope) (x : Str) : Bool := decide (sc.names.lookup x = some .globalImplicit) && !(x == ("__debug__" : Str))
def visB (sc : Scope) (x : Str) : Bool := match sc.names.lookup x with
  | some .local => true
  | some .cell => true
  | some .free => true
  | _ => false
def setB (sc : Scope) (asg : Str → Bool) (x : Str) : Bool := match sc.names.lookup x with
  | some .local => true
  | some .cell => asg x
  | _ => false
def callB (apos pos : Pos) (es : List Expr) : Bool := es.all noStar && decide (es.length < 30) && (apos.endLine == pos.line)
def litB : D → Const → Bool
  | .non, .none => true
  | .bl a, .bool b => a == b
  | .int a, .int b => decide (a = b)
  | .str a, .str b => decide (a = b)
  | _, _ => false
def eOp (a b : Operator) : Bool := decide (a = b)
def tysB (P : ZP) (sc : Scope) : List String → List Expr → Bool
  | [], [] => true
  | t :: ts, .Name x _ :: xs => tyNm P sc t x && tysB P sc ts xs
  | _, _ => false
/-- a comprehension's targets: names of its own -/
def okTw (N : List Str) (sc : Scope) (asg : Str → Bool) (vs : List Nat) : T → Expr → Bool
  | .nm i, .Name x _ => decide (N[i]? = some x) && setB sc asg x && vs.contains i
  | .tp ts, .Tuple es _ _ => okTws N sc asg vs ts es
  | _, _ => false
where
  okTws (N : List Str) (sc : Scope) (asg : Str → Bool) (vs : List Nat) : List T → List Expr → Bool
  | [], [] => true
  | t :: ts, e :: es => noStar e && okTw N sc asg vs t e && okTws N sc asg vs ts es
  | _, _ => false
variable (P : ZP) (N : List Str)
def asgC (scope : Scope) : Str → Bool := fun x => scope.names.lookup x == some .cell
def ownOf (N : List Str) (own : List Nat) : List (Str × Nat) := own.filterMap fun i => (N[i]?).map fun x => (x, i)
mutual
def okX (tm : Bool) (sc : Scope) (asg : Str → Bool) (cm : Bool) : Z → Expr → Bool
  | .var i, e₀ => (!tm || plainT e₀) && (match e₀ with
    | .Name x _ => decide (N[i]? = some x) && visB sc x
    | _ => false)
  | .lit d, e₀ => (!tm || plainT e₀) && (match e₀ with
    | .Constant k _ _ => litB d k
    | _ => false)
  | .glo s d, e₀ => (!tm || plainT e₀) && (match e₀ with
    | .Name x _ => decide (x = Str.ofString s) && glB sc x && (match P.gv.lookup s with
      | some d' => sameD d d'
      | none => false)
    | _ => false)
  | .tup zs, e₀ => (!tm || plainT e₀) && (match e₀ with
    | .Tuple es _ _ => okEs sc asg cm zs es
    | _ => false)
  | .lst _ zs, e₀ => (!tm || plainT e₀) && (match e₀ with
    | .List es _ => okEs sc asg cm zs es
    | _ => false)
  | .bin op _ a b, e₀ => (!tm || plainT e₀) && (match e₀ with
    | .BinOp x op' y _ => eOp op op' && okX false sc asg cm a x && okX false sc asg cm b y
    | _ => false)
  | .neg a, e₀ => (!tm || plainT e₀) && (match e₀ with
    | .UnaryOp .USub x _ => okX false sc asg cm a x
    | _ => false)
  | .cmp op a b, e₀ => cond tm (match e₀ with
    | .Compare x [op'] [y] _ => decide (op = op') && noSet y && okX false sc asg cm a x && okX false sc asg cm b y
    | _ => false) (match e₀ with
    | .Compare x [op'] [y] _ => decide (op = op') && noSet y && okX false sc asg cm a x && okX false sc asg cm b y
    | _ => false)
  | .chn op op' a b d, e₀ => cond tm (match e₀ with
    | .Compare x [q, q'] [y, w] _ => decide (op = q) && decide (op' = q') && noSet w && okX false sc asg cm a x && okX false sc asg cm b y && okX false sc asg cm d w
    | _ => false) (match e₀ with
    | .Compare x [q, q'] [y, w] _ => decide (op = q) && decide (op' = q') && noSet w && okX false sc asg cm a x && okX false sc asg cm b y && okX false sc asg cm d w
    | _ => false)
  | .and a b, e₀ => cond tm (match e₀ with
    | .BoolOp .And (x :: y :: rest) pos => okX true sc asg cm a x && (match rest with
      | [] => okX true sc asg cm b y
      | r :: rs => okX true sc asg cm b (.BoolOp .And (y :: r :: rs) pos))
    | _ => false) (match e₀ with
    | .BoolOp .And (x :: y :: rest) pos => okX false sc asg cm a x && (match rest with
      | [] => okX false sc asg cm b y
      | r :: rs => okX false sc asg cm b (.BoolOp .And (y :: r :: rs) pos))
    | _ => false)
  | .or a b, e₀ => cond tm (match e₀ with
    | .BoolOp .Or (x :: y :: rest) pos => okX true sc asg cm a x && (match rest with
      | [] => okX true sc asg cm b y
      | r :: rs => okX true sc asg cm b (.BoolOp .Or (y :: r :: rs) pos))
    | _ => false) (match e₀ with
    | .BoolOp .Or (x :: y :: rest) pos => okX false sc asg cm a x && (match rest with
      | [] => okX false sc asg cm b y
      | r :: rs => okX false sc asg cm b (.BoolOp .Or (y :: r :: rs) pos))
    | _ => false)
  | .not a, e₀ => cond tm (match e₀ with
    | .UnaryOp .Not x _ => okX true sc asg cm a x
    | _ => false) (match e₀ with
    | .UnaryOp .Not x _ => okX false sc asg cm a x || okB sc asg cm a x
    | _ => false)
  | .wal, _ => true
  | .own _ f o zs, e₀ => cond tm (plainT e₀ && ((match e₀ with
    | .Call (.Name x _) [y] [] _ => cm && decide (f = "__bool__") && zs.isEmpty && decide (x = Str.ofString "bool") && glB sc x && noStar y && okX false sc asg cm o y
    | .BinOp x .Add y _ => cm && decide (f = "__add__") && okX false sc asg cm o x && okE1 sc asg cm zs y
    | _ => false) || (cm && decide (f = "__bool__") && zs.isEmpty && okX false sc asg cm o e₀))) (match e₀ with
    | .Call (.Name x _) [y] [] _ => cm && decide (f = "__bool__") && zs.isEmpty && decide (x = Str.ofString "bool") && glB sc x && noStar y && okX false sc asg cm o y
    | .BinOp x .Add y _ => cm && decide (f = "__add__") && okX false sc asg cm o x && okE1 sc asg cm zs y
    | _ => false)
  | .ite t a b, e₀ => (!tm || plainT e₀) && (match e₀ with
    | .IfExp x y w _ => okX true sc asg cm t x && okX false sc asg cm a y && okX false sc asg cm b w
    | _ => false)
  | .att a f, e₀ => (!tm || plainT e₀) && (match e₀ with
    | .Attribute x g _ => decide (g = Str.ofString f) && asc f && noSuper x && okX false sc asg cm a x
    | _ => false)
  | .sub a i, e₀ => (!tm || plainT e₀) && (match e₀ with
    | .Subscript x y _ => noSl y && okX false sc asg cm a x && okX false sc asg cm i y
    | _ => false)
  | .slc _ a lo hi, e₀ => (!tm || plainT e₀) && (match e₀ with
    | .Subscript x (.Slice l h none _) _ => okX false sc asg cm a x && okO sc asg cm lo l && okO sc asg cm hi h
    | _ => false)
  | .rev _ a, e₀ => (!tm || plainT e₀) && (match e₀ with
    | .Subscript x (.Slice none none (some (.UnaryOp .USub (.Constant (.int k) _ _) _)) _) _ => decide (k = 1) && okX false sc asg cm a x
    | _ => false)
  | .call _ f zs, e₀ => (!tm || plainT e₀) && (match e₀ with
    | .Call (.Name x _) es [] _ => cm && decide (x = Str.ofString f) && glB sc x && P.gl.contains f && es.all noStar && okEs sc asg cm zs es
    | _ => false)
  | .met _ f o zs, e₀ => (!tm || plainT e₀) && (match e₀ with
    | .Call (.Attribute x g apos) es [] pos => cm && decide (g = Str.ofString f) && asc f && noSuper x && callB apos pos es && okX false sc asg cm o x && okEs sc asg cm zs es
    | _ => false)
  | .mk _ k zs, e₀ => (!tm || plainT e₀) && (match e₀ with
    | .Call (.Name x _) es [] _ => cm && decide (x = Str.ofString k) && glB sc x && (P.cls.lookup k).isSome && ((P.cls.lookup k).bind fun q => q.meths.lookup "__init__").isSome && es.all noStar && okEs sc asg cm zs es
    | _ => false)
  | .blt b _ zs, e₀ => (!tm || plainT e₀) && (match e₀ with
    | .Call (.Name x _) (e :: es) [] _ => cm && decide (b ≠ .sset) && decide (x = Str.ofString (bltN b)) && glB sc x && (e :: es).all noStar && okEs sc asg cm zs (e :: es)
    | _ => false)
  | .bmt b _ o zs, e₀ => (!tm || plainT e₀) && (match e₀ with
    | .Call (.Attribute x g apos) es [] pos => bmOk b && decide (g = bmN b) && noSuper x && callB apos pos es && okX false sc asg cm o x && okEs sc asg cm zs es
    | _ => false)
  | .isi a ts, e₀ => (!tm || plainT e₀) && (match e₀ with
    | .Call (.Name x _) [y, t] [] _ => decide (x = Str.ofString "isinstance") && glB sc x && noStar y && okX false sc asg cm a y && (match t with
      | .Name w _ => (match ts with
        | [t1] => tyNm P sc t1 w
        | _ => false)
      | .Tuple ws _ _ => tysB P sc ts ws && decide (ts.length ≤ 100)
      | _ => false)
    | _ => false)
  | .lc _ own e (.mk t it ifs), e₀ => (!tm || plainT e₀) && (match e₀ with
    | .ListComp x [⟨tg, iter, cs, 0⟩] scope _ => cm && blkC N sc scope (ownOf N own) && decide ((ownOf N own).map (·.2) = own) && noSet iter && okTw N (L2.relS scope sc) (asgC scope) own t tg && okI sc asg cm it iter tg && okPs (L2.relS scope sc) (asgC scope) cm ifs cs && okX false (L2.relS scope sc) (asgC scope) cm e x
    | _ => false)
  | .dc _ _ own k e (.mk t it ifs), e₀ => (!tm || plainT e₀) && (match e₀ with
    | .DictComp w x [⟨tg, iter, cs, 0⟩] scope _ => cm && blkC N sc scope (ownOf N own) && decide ((ownOf N own).map (·.2) = own) && noSet iter && okTw N (L2.relS scope sc) (asgC scope) own t tg && okI sc asg cm it iter tg && okPs (L2.relS scope sc) (asgC scope) cm ifs cs && okX false (L2.relS scope sc) (asgC scope) cm k w && okX false (L2.relS scope sc) (asgC scope) cm e x
    | _ => false)
  | _, _ => false
def okB (sc : Scope) (asg : Str → Bool) (cm : Bool) : Z → Expr → Bool
  | .own _ f o zs, e => cm && decide (f = "__bool__") && zs.isEmpty && okX false sc asg cm o e
  | _, _ => false
def okE1 (sc : Scope) (asg : Str → Bool) (cm : Bool) : List Z → Expr → Bool
  | [z], e => okX false sc asg cm z e
  | _, _ => false
def okEs (sc : Scope) (asg : Str → Bool) (cm : Bool) : List Z → List Expr → Bool
  | [], [] => true
  | z :: zs, e :: es => noStar e && okX false sc asg cm z e && okEs sc asg cm zs es
  | _, _ => false
def okO (sc : Scope) (asg : Str → Bool) (cm : Bool) : Option Z → Option Expr → Bool
  | none, none => true
  | some z, some e => okX false sc asg cm z e
  | _, _ => false
def okPs (sc : Scope) (asg : Str → Bool) (cm : Bool) : List Z → List Expr → Bool
  | [], [] => true
  | [z], [e] => okX true sc asg cm z e
  | _, _ => false
def okI (sc : Scope) (asg : Str → Bool) (cm : Bool) : It → Expr → Expr → Bool
  | .seq z, e, _ => okX false sc asg cm z e
  | .rng zs, e₀, _ => match e₀ with
    | .Call (.Name x _) es [] _ => decide (x = Str.ofString "range") && glB sc x && okEs sc asg cm zs es && (decide (es.length = 1) || decide (es.length = 2))
    | _ => false
  | .enu z, e₀, t₀ => match e₀, t₀ with
    | .Call (.Name x _) [e] [] _, .Tuple _ _ _ => decide (x = Str.ofString "enumerate") && glB sc x && noStar e && okX false sc asg cm z e
    | _, _ => false
  | .zip z1 z2, e₀, t₀ => match e₀, t₀ with
    | .Call (.Name x _) [e, e2] [] _, .Tuple _ _ _ => decide (x = Str.ofString "zip") && glB sc x && noStar e && noStar e2 && okX false sc asg cm z1 e && okX false sc asg cm z2 e2
    | _, _ => false
  | .itm z, e₀, t₀ => match e₀, t₀ with
    | .Call (.Attribute e x apos) [] [] pos, .Tuple _ _ _ => decide (x = Str.ofString "items") && noSuper e && (apos.endLine == pos.line) && okX false sc asg cm z e
    | _, _ => false
  | .val z, e₀, _ => match e₀ with
    | .Call (.Attribute e x apos) [] [] pos => decide (x = Str.ofString "values") && noSuper e && (apos.endLine == pos.line) && okX false sc asg cm z e
    | _ => false
end
abbrev okE (sc : Scope) (asg : Str → Bool) (cm : Bool) (z : Z) (e : Expr) : Bool := okX P N false sc asg cm z e
abbrev okP (sc : Scope) (asg : Str → Bool) (cm : Bool) (z : Z) (e : Expr) : Bool := okX P N true sc asg cm z e
theorem okE_def (sc : Scope) (asg : Str → Bool) (cm : Bool) (z : Z) (e : Expr) : okE P N sc asg cm z e = match z, e with
    | .var i, e₀ => match e₀ with
      | .Name x _ => decide (N[i]? = some x) && visB sc x
      | _ => false
    | .lit d, e₀ => match e₀ with
      | .Constant k _ _ => litB d k
      | _ => false
    | .glo s d, e₀ => match e₀ with
      | .Name x _ => decide (x = Str.ofString s) && glB sc x && (match P.gv.lookup s with
        | some d' => sameD d d'
        | none => false)
      | _ => false
    | .tup zs, e₀ => match e₀ with
      | .Tuple es _ _ => okEs P N sc asg cm zs es
      | _ => false
    | .lst _ zs, e₀ => match e₀ with
      | .List es _ => okEs P N sc asg cm zs es
      | _ => false
    | .bin op _ a b, e₀ => match e₀ with
      | .BinOp x op' y _ => eOp op op' && okE P N sc asg cm a x && okE P N sc asg cm b y
      | _ => false
    | .neg a, e₀ => match e₀ with
      | .UnaryOp .USub x _ => okE P N sc asg cm a x
      | _ => false
    | .cmp op a b, e₀ => match e₀ with
      | .Compare x [op'] [y] _ => decide (op = op') && noSet y && okE P N sc asg cm a x && okE P N sc asg cm b y
      | _ => false
    | .chn op op' a b d, e₀ => match e₀ with
      | .Compare x [q, q'] [y, w] _ => decide (op = q) && decide (op' = q') && noSet w && okE P N sc asg cm a x && okE P N sc asg cm b y && okE P N sc asg cm d w
      | _ => false
    | .and a b, e₀ => match e₀ with
      | .BoolOp .And (x :: y :: rest) pos => okE P N sc asg cm a x && (match rest with
        | [] => okE P N sc asg cm b y
        | r :: rs => okE P N sc asg cm b (.BoolOp .And (y :: r :: rs) pos))
      | _ => false
    | .or a b, e₀ => match e₀ with
      | .BoolOp .Or (x :: y :: rest) pos => okE P N sc asg cm a x && (match rest with
        | [] => okE P N sc asg cm b y
        | r :: rs => okE P N sc asg cm b (.BoolOp .Or (y :: r :: rs) pos))
      | _ => false
    | .not a, e₀ => match e₀ with
      | .UnaryOp .Not x _ => okE P N sc asg cm a x || okB P N sc asg cm a x
      | _ => false
    | .wal, _ => true
    | .own _ f o zs, e₀ => match e₀ with
      | .Call (.Name x _) [y] [] _ => cm && decide (f = "__bool__") && zs.isEmpty && decide (x = Str.ofString "bool") && glB sc x && noStar y && okE P N sc asg cm o y
      | .BinOp x .Add y _ => cm && decide (f = "__add__") && okE P N sc asg cm o x && okE1 P N sc asg cm zs y
      | _ => false
    | .ite t a b, e₀ => match e₀ with
      | .IfExp x y w _ => okP P N sc asg cm t x && okE P N sc asg cm a y && okE P N sc asg cm b w
      | _ => false
    | .att a f, e₀ => match e₀ with
      | .Attribute x g _ => decide (g = Str.ofString f) && asc f && noSuper x && okE P N sc asg cm a x
      | _ => false
    | .sub a i, e₀ => match e₀ with
      | .Subscript x y _ => noSl y && okE P N sc asg cm a x && okE P N sc asg cm i y
      | _ => false
    | .slc _ a lo hi, e₀ => match e₀ with
      | .Subscript x (.Slice l h none _) _ => okE P N sc asg cm a x && okO P N sc asg cm lo l && okO P N sc asg cm hi h
      | _ => false
    | .rev _ a, e₀ => match e₀ with
      | .Subscript x (.Slice none none (some (.UnaryOp .USub (.Constant (.int k) _ _) _)) _) _ => decide (k = 1) && okE P N sc asg cm a x
      | _ => false
    | .call _ f zs, e₀ => match e₀ with
      | .Call (.Name x _) es [] _ => cm && decide (x = Str.ofString f) && glB sc x && P.gl.contains f && es.all noStar && okEs P N sc asg cm zs es
      | _ => false
    | .met _ f o zs, e₀ => match e₀ with
      | .Call (.Attribute x g apos) es [] pos => cm && decide (g = Str.ofString f) && asc f && noSuper x && callB apos pos es && okE P N sc asg cm o x && okEs P N sc asg cm zs es
      | _ => false
    | .mk _ k zs, e₀ => match e₀ with
      | .Call (.Name x _) es [] _ => cm && decide (x = Str.ofString k) && glB sc x && (P.cls.lookup k).isSome && ((P.cls.lookup k).bind fun q => q.meths.lookup "__init__").isSome && es.all noStar && okEs P N sc asg cm zs es
      | _ => false
    | .blt b _ zs, e₀ => match e₀ with
      | .Call (.Name x _) (e :: es) [] _ => cm && decide (b ≠ .sset) && decide (x = Str.ofString (bltN b)) && glB sc x && (e :: es).all noStar && okEs P N sc asg cm zs (e :: es)
      | _ => false
    | .bmt b _ o zs, e₀ => match e₀ with
      | .Call (.Attribute x g apos) es [] pos => bmOk b && decide (g = bmN b) && noSuper x && callB apos pos es && okE P N sc asg cm o x && okEs P N sc asg cm zs es
      | _ => false
    | .isi a ts, e₀ => match e₀ with
      | .Call (.Name x _) [y, t] [] _ => decide (x = Str.ofString "isinstance") && glB sc x && noStar y && okE P N sc asg cm a y && (match t with
        | .Name w _ => (match ts with
          | [t1] => tyNm P sc t1 w
          | _ => false)
        | .Tuple ws _ _ => tysB P sc ts ws && decide (ts.length ≤ 100)
        | _ => false)
      | _ => false
    | .lc _ own e (.mk t it ifs), e₀ => match e₀ with
      | .ListComp x [⟨tg, iter, cs, 0⟩] scope _ => cm && blkC N sc scope (ownOf N own) && decide ((ownOf N own).map (·.2) = own) && noSet iter && okTw N (L2.relS scope sc) (asgC scope) own t tg && okI P N sc asg cm it iter tg && okPs P N (L2.relS scope sc) (asgC scope) cm ifs cs && okE P N (L2.relS scope sc) (asgC scope) cm e x
      | _ => false
    | .dc _ _ own k e (.mk t it ifs), e₀ => match e₀ with
      | .DictComp w x [⟨tg, iter, cs, 0⟩] scope _ => cm && blkC N sc scope (ownOf N own) && decide ((ownOf N own).map (·.2) = own) && noSet iter && okTw N (L2.relS scope sc) (asgC scope) own t tg && okI P N sc asg cm it iter tg && okPs P N (L2.relS scope sc) (asgC scope) cm ifs cs && okE P N (L2.relS scope sc) (asgC scope) cm k w && okE P N (L2.relS scope sc) (asgC scope) cm e x
      | _ => false
    | _, _ => false := by
  cases z with
  | lc fz own e c => cases c; rfl
  | dc fz t own k e c => cases c; rfl
  | _ => rfl
theorem okP_def (sc : Scope) (asg : Str → Bool) (cm : Bool) (z : Z) (e : Expr) : okP P N sc asg cm z e = match z, e with
    | .not a, e₀ => match e₀ with
      | .UnaryOp .Not x _ => okP P N sc asg cm a x
      | _ => false
    | .and a b, e₀ => match e₀ with
      | .BoolOp .And (x :: y :: rest) pos => okP P N sc asg cm a x && (match rest with
        | [] => okP P N sc asg cm b y
        | r :: rs => okP P N sc asg cm b (.BoolOp .And (y :: r :: rs) pos))
      | _ => false
    | .or a b, e₀ => match e₀ with
      | .BoolOp .Or (x :: y :: rest) pos => okP P N sc asg cm a x && (match rest with
        | [] => okP P N sc asg cm b y
        | r :: rs => okP P N sc asg cm b (.BoolOp .Or (y :: r :: rs) pos))
      | _ => false
    | .cmp op a b, e₀ => match e₀ with
      | .Compare x [op'] [y] _ => decide (op = op') && noSet y && okE P N sc asg cm a x && okE P N sc asg cm b y
      | _ => false
    | .chn op op' a b d, e₀ => match e₀ with
      | .Compare x [q, q'] [y, w] _ => decide (op = q) && decide (op' = q') && noSet w && okE P N sc asg cm a x && okE P N sc asg cm b y && okE P N sc asg cm d w
      | _ => false
    | .wal, _ => true
    | .own kp f o zs, e => plainT e && (okE P N sc asg cm (.own kp f o zs) e || okB P N sc asg cm (.own kp f o zs) e)
    | z, e => plainT e && okE P N sc asg cm z e := by
  cases z with
  | lc fz own e c => cases c; rfl
  | dc fz t own k e c => cases c; rfl
  | _ => first | rfl | exact (Bool.and_false _).symm
end Zi
set_option maxHeartbeats 8000000
/-! Z9b: what is checked is so. -/
namespace Zi
open PySem PySem.Spec PyProof.Rows L2
theorem gl_ok {sc : Scope} {x : Str} (h : glB sc x = true) : sc.names.lookup x = some .globalImplicit ∧ (x == ("__debug__" : Str)) = false := by
  unfold glB at h
  rw [Bool.and_eq_true, decide_eq_true_eq] at h
  exact ⟨h.1, by simpa using h.2⟩
theorem vis_ok {sc : Scope} {x : Str} (h : visB sc x = true) : Vis sc x := by
  unfold visB at h
  split at h
  · rename_i e; exact .inl e
  · rename_i e; exact .inr (.inl e)
  · rename_i e; exact .inr (.inr e)
  · cases h
theorem set_ok {sc : Scope} {asg : Str → Bool} {x : Str} (h : setB sc asg x = true) : sc.names.lookup x = some .local ∨ (sc.names.lookup x = some .cell ∧ asg x = true) := by
  unfold setB at h
  split at h
  · rename_i e; exact .inl e
  · rename_i e; exact .inr ⟨e, h⟩
  · cases h
theorem call_ok {apos pos : Pos} {es : List Expr} (h : callB apos pos es = true) : es.all noStar = true ∧ es.length < 30 ∧ (apos.endLine == pos.line) = true := by
  unfold callB at h
  rw [Bool.and_eq_true, Bool.and_eq_true, decide_eq_true_eq] at h
  exact ⟨h.1.1, h.1.2, h.2⟩
theorem bind_assoc {α β γ : Type} (r : R α) (k : α → MH → R β) (l : β → MH → R γ) : (r.bind k).bind l = r.bind fun x m => (k x m).bind l := by cases r <;> rfl
theorem tst_not (f : Ev → MH → R D) : (tst fun ρ m => (f ρ m).bind fun x m => (ofO (truth m x) m).bind fun k m => .ok (.bl (!k)) m) = fun ρ m => (tst f ρ m).bind fun k m => .ok (!k) m := by
  funext ρ m
  unfold tst
  rw [bind_assoc, bind_assoc]
  congr 1; funext x m
  rw [bind_assoc]
  rfl
theorem tst_and (f1 f2 : Ev → MH → R D) : (tst fun ρ m => (f1 ρ m).bind fun x m => (ofO (truth m x) m).bind fun k m => if k = true then f2 ρ m else .ok x m) = fun ρ m => (tst f1 ρ m).bind fun k m => if k = true then tst f2 ρ m else .ok false m := by
  funext ρ m
  unfold tst
  rw [bind_assoc, bind_assoc]
  congr 1; funext x m
  cases e : truth m x with
  | none => rfl
  | some k => cases k with
    | true => rfl
    | false => show (ofO (truth m x) m) = _; rw [e]; rfl
theorem tst_or (f1 f2 : Ev → MH → R D) : (tst fun ρ m => (f1 ρ m).bind fun x m => (ofO (truth m x) m).bind fun k m => if k = true then .ok x m else f2 ρ m) = fun ρ m => (tst f1 ρ m).bind fun k m => if k = true then .ok true m else tst f2 ρ m := by
  funext ρ m
  unfold tst
  rw [bind_assoc, bind_assoc]
  congr 1; funext x m
  cases e : truth m x with
  | none => rfl
  | some k => cases k with
    | false => rfl
    | true => show (ofO (truth m x) m) = _; rw [e]; rfl
theorem tst_ite (t f1 f2 : Ev → MH → R D) : (fun ρ m => (t ρ m).bind fun x m => (ofO (truth m x) m).bind fun k m => if k = true then f1 ρ m else f2 ρ m) = fun ρ m => (tst t ρ m).bind fun k m => if k = true then f1 ρ m else f2 ρ m := by
  funext ρ m
  unfold tst
  rw [bind_assoc]
section
variable {P : ZP} {N : List Str} {Γ : Gl0} {fa : String → Addr} {n base : Nat}
theorem lit_ok {X : Cx} {W : WX} {d : D} {k : Const} {j : Nat} {pos : Pos} (h : litB d k = true) : PE X (.Constant k j pos) (tE Γ base W fun _ m => .ok d m) := by
  unfold litB at h
  split at h
  · exact z_lit (v := .non) (fun _ _ => rfl) pe_non
  · rename_i a b
    have e : a = b := by simpa using h
    subst e
    exact z_lit (v := .bl a) (fun _ _ => rfl) pe_bl
  · rename_i a b
    have e : a = b := of_decide_eq_true h
    subst e
    exact z_lit (v := .int a) (fun _ _ => rfl) pe_int
  · rename_i a b
    have e : a = b := of_decide_eq_true h
    subst e
    exact z_lit (v := .str a) (fun _ _ => rfl) pe_str
  · cases h
mutual
theorem okTw_ok {X : Cx} {sc : Scope} {asg : Str → Bool} {c : EC} {vs : List Nat} (g : GoodX Γ P fa n N sc asg true X) : ∀ (t : T) (e : Expr), okTw N sc asg vs t e = true → PG X e (tGw Γ base vs fun d ρ m => asgT c t d ρ m)
  | .nm i, e, h => by
    unfold okTw at h
    split at h
    · rename_i i' x q e1
      cases e1
      rw [Bool.and_eq_true, Bool.and_eq_true, decide_eq_true_eq] at h
      have := gw_nm (base := base) (pos := q) g h.1.1 (set_ok h.1.2) (by simpa using h.2)
      refine PG.imp this fun v σ H Q z => ?_
      simpa only [asgT] using z
    · rename_i e1; cases e1
    · cases h
  | .tp ts, e, h => by
    unfold okTw at h
    split at h
    · rename_i e1; cases e1
    · rename_i ts' es k q e1
      cases e1
      obtain ⟨h1, h2, h3⟩ := okTws_ok (c := c) g ts es h
      have ee : (fun d ρ m => asgT c (.tp ts) d ρ m) = fun d ρ m => match d with
          | .tup ds => if ds.length = es.length then (asgTs c ts ds ρ m).nox else .bad
          | _ => .bad := by
        funext d ρ m
        cases d <;> simp only [asgT, h3]
      rw [ee]
      exact gw_tp g h1 h2
    · cases h
  | .sb _ _, e, h => by unfold okTw at h; cases h
  | .at _ _, e, h => by unfold okTw at h; cases h
theorem okTws_ok {X : Cx} {sc : Scope} {asg : Str → Bool} {c : EC} {vs : List Nat} (g : GoodX Γ P fa n N sc asg true X) : ∀ (ts : List T) (es : List Expr), okTw.okTws N sc asg vs ts es = true → PGs X es (tGsw Γ base vs fun ds ρ m => asgTs c ts ds ρ m) ∧ es.all noStar = true ∧ es.length = ts.length
  | [], [], _ => by
    have ee : (fun ds ρ m => asgTs c [] ds ρ m) = fun ds ρ m => match ds with
        | [] => .ok ρ m
        | _ => .bad := by
      funext ds ρ m
      cases ds <;> simp only [asgTs]
    rw [ee]
    exact ⟨gsw_nil, rfl, rfl⟩
  | t :: ts, e :: es, h => by
    have h' : (noStar e && okTw N sc asg vs t e && okTw.okTws N sc asg vs ts es) = true := h
    rw [Bool.and_eq_true, Bool.and_eq_true] at h'
    obtain ⟨i1, i2, i3⟩ := okTws_ok (c := c) g ts es h'.2
    have ee : (fun ds ρ m => asgTs c (t :: ts) ds ρ m) = fun ds ρ m => match ds with
        | d :: ds => (asgT c t d ρ m).bind fun ρ m => asgTs c ts ds ρ m
        | [] => .bad := by
      funext ds ρ m
      cases ds <;> simp only [asgTs]
    rw [ee]
    refine ⟨gsw_cons (okTw_ok (c := c) g t e h'.1.2) i1 h'.1.1, ?_, ?_⟩
    · rw [List.all_cons, h'.1.1, i2]; rfl
    · rw [List.length_cons, i3, List.length_cons]
  | [], _ :: _, h => by cases h
  | _ :: _, [], h => by cases h
end
end
end Zi
set_option maxHeartbeats 16000000
/-! Z9c: the checker's soundness for expressions. -/
namespace Zi
open PySem PySem.Spec PyProof.Rows L2
section
variable {P : ZP} {N : List Str} {Γ : Gl0} {fa : String → Addr} {n base : Nat}
theorem pe_ev {X : Cx} {W : WX} {e : Expr} {f g : Ev → MH → R D} (p : PE X e (tE Γ base W f)) (h : ∀ ρ m, g ρ m = f ρ m) : PE X e (tE Γ base W g) := by
  have : g = f := by funext ρ m; exact h ρ m
  rw [this]; exact p
theorem pa_ev {X : Cx} {W : WX} {e : List Expr} {f g : Ev → MH → R (List D)} (p : PA X e (tA Γ base W f)) (h : ∀ ρ m, g ρ m = f ρ m) : PA X e (tA Γ base W g) := by
  have : g = f := by funext ρ m; exact h ρ m
  rw [this]; exact p
theorem po_ev {X : Cx} {W : WX} {e : Option Expr} {f g : Ev → MH → R (Option D)} (p : PO X e (tO Γ base W f)) (h : ∀ ρ m, g ρ m = f ρ m) : PO X e (tO Γ base W g) := by
  have : g = f := by funext ρ m; exact h ρ m
  rw [this]; exact p
theorem pi_ev {X : Cx} {W : WX} {e t : Expr} {f g : Ev → MH → R It1} (p : PI X t e (tI Γ base W f)) (h : ∀ ρ m, g ρ m = f ρ m) : PI X t e (tI Γ base W g) := by
  have : g = f := by funext ρ m; exact h ρ m
  rw [this]; exact p
theorem tys_ok {sc : Scope} {X : Cx} {asg : Str → Bool} {cm : Bool} (g : GoodX Γ P fa n N sc asg cm X) : ∀ (ts : List String) (es : List Expr), tysB P sc ts es = true → PA X es (fun σ H Q => Q (ts.map (tyVv Γ)) H) ∧ ∀ t ∈ ts, tyNames.contains t = true ∨ ∃ q, P.cls.lookup t = some q
  | [], [], _ => ⟨pa_nil, fun t ht => by cases ht⟩
  | t :: ts, e :: es, h => by
    cases e with
    | Name x q =>
      have h' : (tyNm P sc t x && tysB P sc ts es) = true := h
      rw [Bool.and_eq_true] at h'
      obtain ⟨p1, p2⟩ := pe_tyNm (p := q) g h'.1
      obtain ⟨i1, i2⟩ := tys_ok g ts es h'.2
      exact ⟨pa_cons p1 i1 (star_cons rfl _ _), fun u hu => by
        rcases List.mem_cons.mp hu with rfl | hu
        · exact p2
        · exact i2 u hu⟩
    | _ => cases h
  | [], _ :: _, h => by cases h
  | _ :: _, [], h => by cases h
def isBO : Expr → Bool
  | .BoolOp _ _ _ => true
  | _ => false
theorem plain_bo {e : Expr} (h : plainT e = true) (q : isBO e = true) : False := by
  cases e with
  | BoolOp _ _ _ => cases h
  | _ => cases q
theorem okB_inv {sc : Scope} {asg : Str → Bool} {cm : Bool} {kp : Bool} {f : String} {o : Z} {zs : List Z} {e : Expr} (h : okB P N sc asg cm (.own kp f o zs) e = true) : cm = true ∧ f = "__bool__" ∧ zs = [] ∧ okE P N sc asg cm o e = true := by
  have h' : (cm && decide (f = "__bool__") && zs.isEmpty && okE P N sc asg cm o e) = true := h
  simp only [Bool.and_eq_true] at h'
  exact ⟨h'.1.1.1, of_decide_eq_true h'.1.1.2, List.isEmpty_iff.mp h'.1.2, h'.2⟩
theorem ev_ownB {kp : Bool} {o : Z} {ρ : Ev} {m : MH} : ev (ecOf P base (callF P n)) (.own kp "__bool__" o []) ρ m = own0 (ev (ecOf P base (callF P n)) o) (ecOf P base (callF P n)).meth "__bool__" (kOwn0 P n kp "__bool__") ρ m := by
  rw [ev]
  unfold own0 ownD kOwn0
  congr 1
theorem ev_ownA {kp : Bool} {o z : Z} {ρ : Ev} {m : MH} : ev (ecOf P base (callF P n)) (.own kp "__add__" o [z]) ρ m = (ev (ecOf P base (callF P n)) o ρ m).bind fun x m => ownD (ecOf P base (callF P n)).meth x "__add__" (kOwnA P n kp "__add__" (ev (ecOf P base (callF P n)) z) ρ x) m := by
  rw [ev]
  unfold ownD kOwnA
  congr 1
  funext x m
  cases getI m x with
  | none => rfl
  | some p =>
    obtain ⟨k, fs⟩ := p
    dsimp only
    cases (ecOf P base (callF P n)).meth k "__add__" with
    | none => rfl
    | some g => cases fs.lookup "__add__" with
      | some _ => rfl
      | none =>
        dsimp only
        simp only [evs]
        cases ev (ecOf P base (callF P n)) z ρ m <;> rfl
theorem PTs.imp {X : Cx} {es : List Expr} {t t' : TT} (h : PTs X es t) (k : ∀ σ H Q, t' σ H Q → t σ H Q) : PTs X es t' := ⟨fun pins s σ H Q I z => h.run pins s σ H Q I (k σ H Q z)⟩
theorem z_and1 {X : Cx} {W : WX} {e : Expr} {f : Ev → MH → R D} {pos : Pos} (h : PE X e (tE Γ base W f)) : PE X (.BoolOp .And [e] pos) (tE Γ base W f) := pe_one h
theorem z_or1 {X : Cx} {W : WX} {e : Expr} {f : Ev → MH → R D} {pos : Pos} (h : PE X e (tE Γ base W f)) : PE X (.BoolOp .Or [e] pos) (tE Γ base W f) := pe_one h
mutual
theorem okE_ok : ∀ (z : Z) {X : Cx} {sc : Scope} {asg : Str → Bool} {cm : Bool} {e : Expr} {W : WX}, okE P N sc asg cm z e = true → GoodX Γ P fa n N sc asg cm X → Takes X W → PE X e (tE Γ base W (ev (ecOf P base (callF P n)) z))
  | .var i, X, sc, asg, cm, e, W, h, g, tk => by
    rw [okE_def] at h; dsimp only at h
    split at h
    · rename_i x q
      rw [Bool.and_eq_true, decide_eq_true_eq] at h
      have hd := g.dbg x (List.mem_of_getElem? h.1)
      exact pe_ev (z_var (N := N) (by rw [g.nm]; exact h.1) (by rw [g.scp]; exact vis_ok h.2) hd.1 hd.2) fun ρ m => by rw [ev]
    · cases h
  | .lit d, X, sc, asg, cm, e, W, h, g, tk => by
    rw [okE_def] at h; dsimp only at h
    split at h
    · exact pe_ev (lit_ok h) fun ρ m => by rw [ev]
    · cases h
  | .tup zs, X, sc, asg, cm, e, W, h, g, tk => by
    rw [okE_def] at h; dsimp only at h
    split at h
    · exact pe_ev (z_tup (okEs_ok zs h g tk).1) fun ρ m => by rw [ev]
    · cases h
  | .lst fz zs, X, sc, asg, cm, e, W, h, g, tk => by
    rw [okE_def] at h; dsimp only at h
    split at h
    · exact pe_ev (z_lst (okEs_ok zs h g tk).1) fun ρ m => by rw [ev]
    · cases h
  | .bin op fz a b, X, sc, asg, cm, e, W, h, g, tk => by
    rw [okE_def] at h; dsimp only at h
    split at h
    · simp only [Bool.and_eq_true] at h
      obtain ⟨⟨h1, h2⟩, h3⟩ := h
      cases of_decide_eq_true h1
      exact pe_ev (z_bin g.gx (okE_ok a h2 g tk) (okE_ok b h3 g tk)) fun ρ m => by rw [ev]
    · cases h
  | .neg a, X, sc, asg, cm, e, W, h, g, tk => by
    rw [okE_def] at h; dsimp only at h
    split at h
    · exact pe_ev (z_neg (okE_ok a h g tk)) fun ρ m => by rw [ev] <;> rfl
    · cases h
  | .cmp op a b, X, sc, asg, cm, e, W, h, g, tk => by
    rw [okE_def] at h; dsimp only at h
    split at h
    · simp only [Bool.and_eq_true] at h
      obtain ⟨⟨⟨h1, h2⟩, h3⟩, h4⟩ := h
      cases of_decide_eq_true h1
      exact pe_ev (z_cmp g.gx (okE_ok a h3 g tk) (okE_ok b h4 g tk) h2) fun ρ m => by rw [ev]
    · cases h
  | .chn op op2 a b d, X, sc, asg, cm, e, W, h, g, tk => by
    rw [okE_def] at h; dsimp only at h
    split at h
    · simp only [Bool.and_eq_true] at h
      obtain ⟨⟨⟨⟨⟨h1, h2⟩, h3⟩, h4⟩, h5⟩, h6⟩ := h
      cases of_decide_eq_true h1
      cases of_decide_eq_true h2
      exact pe_ev (z_chn g.gx (okE_ok a h4 g tk) (okE_ok b h5 g tk) (okE_ok d h6 g tk) h3) fun ρ m => by rw [ev]
    · cases h
  | .and a b, X, sc, asg, cm, e, W, h, g, tk => by
    rw [okE_def] at h; dsimp only at h
    split at h
    · rename_i x y rest pos
      rw [Bool.and_eq_true] at h
      cases rest with
      | nil => exact pe_ev (z_and g.gx (okE_ok a h.1 g tk) (z_and1 (pos := pos) (okE_ok b h.2 g tk))) fun ρ m => by rw [ev]
      | cons r rs => exact pe_ev (z_and g.gx (okE_ok a h.1 g tk) (okE_ok b h.2 g tk)) fun ρ m => by rw [ev]
    · cases h
  | .or a b, X, sc, asg, cm, e, W, h, g, tk => by
    rw [okE_def] at h; dsimp only at h
    split at h
    · rename_i x y rest pos
      rw [Bool.and_eq_true] at h
      cases rest with
      | nil => exact pe_ev (z_or g.gx (okE_ok a h.1 g tk) (z_or1 (pos := pos) (okE_ok b h.2 g tk))) fun ρ m => by rw [ev]
      | cons r rs => exact pe_ev (z_or g.gx (okE_ok a h.1 g tk) (okE_ok b h.2 g tk)) fun ρ m => by rw [ev]
    · cases h
  | .not a, X, sc, asg, cm, e, W, h, g, tk => by
    rw [okE_def] at h; dsimp only at h
    split at h
    · rw [Bool.or_eq_true] at h
      rcases h with h | h
      · exact pe_ev (z_not g.gx (okE_ok a h g tk)) fun ρ m => by rw [ev]
      · cases a with
        | own kp f o zs =>
          obtain ⟨rfl, rfl, rfl, h1⟩ := okB_inv h
          exact pe_ev (z_nown (kp := kp) (call := callF P n) (b0 := base) g (okE_ok o h1 g tk)) fun ρ m => by rw [ev, ev_ownB]
        | _ => cases h
    · cases h
  | .wal, X, sc, asg, cm, e, W, h, g, tk => ⟨fun pins s σ H Q I ⟨bs, G, ι, F, ρ, m, sr, hr, h⟩ => by rw [ev] at h; exact h.elim⟩
  | .ite t a b, X, sc, asg, cm, e, W, h, g, tk => by
    rw [okE_def] at h; dsimp only at h
    split at h
    · simp only [Bool.and_eq_true] at h
      obtain ⟨⟨h1, h2⟩, h3⟩ := h
      refine pe_ev (z_ite (okP_ok t h1 g tk).1 (okE_ok a h2 g tk) (okE_ok b h3 g tk)) fun ρ m => ?_
      rw [ev]; exact congrFun (congrFun (tst_ite _ _ _) ρ) m
    · cases h
  | .att a f, X, sc, asg, cm, e, W, h, g, tk => by
    rw [okE_def] at h; dsimp only at h
    split at h
    · simp only [Bool.and_eq_true] at h
      obtain ⟨⟨⟨h1, h2⟩, h3⟩, h4⟩ := h
      cases of_decide_eq_true h1
      exact pe_ev (z_att (call := callF P n) (b0 := base) g (okE_ok a h4 g tk) h3 h2) fun ρ m => by rw [ev] <;> rfl
    · cases h
  | .sub a i, X, sc, asg, cm, e, W, h, g, tk => by
    rw [okE_def] at h; dsimp only at h
    split at h
    · simp only [Bool.and_eq_true] at h
      obtain ⟨⟨h1, h2⟩, h3⟩ := h
      exact pe_ev (z_sub g.gx (okE_ok a h2 g tk) (okE_ok i h3 g tk) h1) fun ρ m => by rw [ev]
    · cases h
  | .slc fz a lo hi, X, sc, asg, cm, e, W, h, g, tk => by
    rw [okE_def] at h; dsimp only at h
    split at h
    · simp only [Bool.and_eq_true] at h
      obtain ⟨⟨h1, h2⟩, h3⟩ := h
      exact pe_ev (z_slc g.gx (okE_ok a h1 g tk) (okO_ok lo h2 g tk) (okO_ok hi h3 g tk)) fun ρ m => by rw [ev]
    · cases h
  | .rev fz a, X, sc, asg, cm, e, W, h, g, tk => by
    rw [okE_def] at h; dsimp only at h
    split at h
    · simp only [Bool.and_eq_true] at h
      cases of_decide_eq_true h.1
      exact pe_ev (z_rev g.gx (okE_ok a h.2 g tk)) fun ρ m => by rw [ev] <;> rfl
    · cases h
  | .call kp f zs, X, sc, asg, cm, e, W, h, g, tk => by
    rw [okE_def] at h; dsimp only at h
    split at h
    · rename_i es pos
      simp only [Bool.and_eq_true] at h
      obtain ⟨⟨⟨⟨⟨h1, h2⟩, h3⟩, h4⟩, h5⟩, h6⟩ := h
      cases h1
      cases of_decide_eq_true h2
      obtain ⟨k1, k2⟩ := gl_ok h3
      have ih := (okEs_ok zs h6 g tk).1
      cases es with
      | nil =>
        cases zs with
        | nil => exact pe_ev (z_call0 g tk h4 k1 k2) fun ρ m => by rw [ev, evs]; rfl
        | cons z zs => rw [okEs.eq_def] at h6; cases h6
      | cons e es => exact pe_ev (z_call g tk h4 k1 k2 ih h5) fun ρ m => by rw [ev] <;> rfl
    · cases h
  | .met kp f o zs, X, sc, asg, cm, e, W, h, g, tk => by
    rw [okE_def] at h; dsimp only at h
    split at h
    · rename_i es pos
      simp only [Bool.and_eq_true] at h
      obtain ⟨⟨⟨⟨⟨⟨h1, h2⟩, h3⟩, h4⟩, h5⟩, h6⟩, h7⟩ := h
      cases h1
      cases of_decide_eq_true h2
      obtain ⟨k1, k2, k3⟩ := call_ok h5
      have ih := (okEs_ok zs h7 g tk).1
      cases es with
      | nil =>
        cases zs with
        | nil => exact pe_ev (z_met0 (call := callF P n) (b0 := base) g tk (okE_ok o h6 g tk) h4 h3 k3) fun ρ m => by rw [ev]; simp only [evs]; rfl
        | cons z zs => rw [okEs.eq_def] at h7; cases h7
      | cons e es => exact pe_ev (z_met (call := callF P n) (b0 := base) g tk (okE_ok o h6 g tk) h4 h3 ih k1 k2 k3) fun ρ m => by rw [ev] <;> rfl
    · cases h
  | .mk fz k zs, X, sc, asg, cm, e, W, h, g, tk => by
    rw [okE_def] at h; dsimp only at h
    split at h
    · rename_i es pos
      simp only [Bool.and_eq_true] at h
      obtain ⟨⟨⟨⟨⟨⟨h1, h2⟩, h3⟩, h4⟩, h5⟩, h6⟩, h7⟩ := h
      cases h1
      cases of_decide_eq_true h2
      obtain ⟨k1, k2⟩ := gl_ok h3
      have ih := (okEs_ok zs h7 g tk).1
      cases es with
      | nil =>
        cases zs with
        | nil => exact pe_ev (z_mk0 (call := callF P n) (b0 := base) g tk h4 k1 k2 h5) fun ρ m => by rw [ev, evs]; rfl
        | cons z zs => rw [okEs.eq_def] at h7; cases h7
      | cons e es => exact pe_ev (z_mk (call := callF P n) (b0 := base) g tk h4 k1 k2 h5 ih h6) fun ρ m => by rw [ev] <;> rfl
    · cases h
  | .blt b fz zs, X, sc, asg, cm, e, W, h, g, tk => by
    rw [okE_def] at h; dsimp only at h
    split at h
    · simp only [Bool.and_eq_true] at h
      obtain ⟨⟨⟨⟨⟨h1, h2⟩, h3⟩, h4⟩, h5⟩, h6⟩ := h
      cases h1
      cases of_decide_eq_true h3
      exact pe_ev (z_blt g (of_decide_eq_true h2) (gl_ok h4).1 (okEs_ok zs h6 g tk).1 h5) fun ρ m => by rw [ev]
    · cases h
  | .bmt b fz o zs, X, sc, asg, cm, e, W, h, g, tk => by
    rw [okE_def] at h; dsimp only at h
    split at h
    · rename_i es pos
      simp only [Bool.and_eq_true] at h
      obtain ⟨⟨⟨⟨⟨h1, h2⟩, h3⟩, h5⟩, h6⟩, h7⟩ := h
      cases of_decide_eq_true h2
      obtain ⟨k1, k2, k3⟩ := call_ok h5
      have ih := (okEs_ok zs h7 g tk).1
      cases es with
      | nil =>
        cases zs with
        | nil => exact pe_ev (z_bmt0 (fz := fz) g h1 (okE_ok o h6 g tk) h3 k3) fun ρ m => by rw [ev]; simp only [evs]; rfl
        | cons z zs => rw [okEs.eq_def] at h7; cases h7
      | cons e es => exact pe_ev (z_bmt (fz := fz) g h1 (okE_ok o h6 g tk) h3 ih k1 k2 k3) fun ρ m => by rw [ev] <;> rfl
    · cases h
  | .isi a ts, X, sc, asg, cm, e, W, h, g, tk => by
    rw [okE_def] at h; dsimp only at h
    split at h
    · rename_i x p0 y t pos
      simp only [Bool.and_eq_true] at h
      obtain ⟨⟨⟨⟨h1, h2⟩, h3⟩, h4⟩, h5⟩ := h
      cases of_decide_eq_true h1
      have k1 := (gl_ok h2).1
      have iy := okE_ok a h4 g tk
      split at h5
      · split at h5
        · exact pe_ev (z_isi1 (call := callF P n) (b0 := base) g iy h3 k1 h5) fun ρ m => by rw [ev] <;> rfl
        · cases h5
      · rw [Bool.and_eq_true] at h5
        obtain ⟨i1, i2⟩ := tys_ok g ts _ h5.1
        exact pe_ev (z_isiT (call := callF P n) (b0 := base) g iy h3 k1 i1 i2 (of_decide_eq_true h5.2)) fun ρ m => by rw [ev] <;> rfl
      · cases h5
    · cases h
  | .lc fz own ex (.mk t it ifs), X, sc, asg, cm, e, W, h, g, tk => by
    rw [okE_def] at h; dsimp only at h
    split at h
    · simp only [Bool.and_eq_true] at h
      obtain ⟨⟨⟨⟨⟨⟨⟨h1, h2⟩, h3⟩, h4⟩, h5⟩, h6⟩, h7⟩, h8⟩ := h
      cases h1
      have ho := of_decide_eq_true h3
      refine pe_ev (z_lc (fz := fz) (gt := fun d ρ m => asgT (ecOf P base (callF P n)) t d ρ m) (tt := evTs (ecOf P base (callF P n)) ifs) (f := ev (ecOf P base (callF P n)) ex) g (okI_ok it h6 g tk) h2
        (fun s H C cl fp => by rw [ho]; exact okTw_ok (g.blk s H _ C cl fp) t _ h5)
        (fun s H C cl fp => okPs_ok ifs h7 (g.blk s H _ C cl fp) takes_no)
        (fun s H C cl fp => okE_ok ex h8 (g.blk s H _ C cl fp) takes_no) h4) fun ρ m => ?_
      rw [ev, ho]; rfl
    · cases h
  | .dc fz kt own ke ex (.mk t it ifs), X, sc, asg, cm, e, W, h, g, tk => by
    rw [okE_def] at h; dsimp only at h
    split at h
    · simp only [Bool.and_eq_true] at h
      obtain ⟨⟨⟨⟨⟨⟨⟨⟨h1, h2⟩, h3⟩, h4⟩, h5⟩, h6⟩, h7⟩, h8⟩, h9⟩ := h
      cases h1
      have ho := of_decide_eq_true h3
      refine pe_ev (z_dc (fz := fz) (t := kt) (gt := fun d ρ m => asgT (ecOf P base (callF P n)) t d ρ m) (tt := evTs (ecOf P base (callF P n)) ifs) (fk := ev (ecOf P base (callF P n)) ke) (fv := ev (ecOf P base (callF P n)) ex) g (okI_ok it h6 g tk) h2
        (fun s H C cl fp => by rw [ho]; exact okTw_ok (g.blk s H _ C cl fp) t _ h5)
        (fun s H C cl fp => okPs_ok ifs h7 (g.blk s H _ C cl fp) takes_no)
        (fun s H C cl fp => okE_ok ke h8 (g.blk s H _ C cl fp) takes_no)
        (fun s H C cl fp => okE_ok ex h9 (g.blk s H _ C cl fp) takes_no) h4) fun ρ m => ?_
      rw [ev, ho]; rfl
    · cases h
  | .glo s d, X, sc, asg, cm, e, W, h, g, tk => by
    rw [okE_def] at h; dsimp only at h
    split at h
    · simp only [Bool.and_eq_true] at h
      obtain ⟨⟨h1, h2⟩, h3⟩ := h
      cases of_decide_eq_true h1
      obtain ⟨k1, k2⟩ := gl_ok h2
      split at h3
      · rename_i d2 e2
        cases eq_of_sameD _ _ h3
        obtain ⟨v, u, m1, m2, m3⟩ := g.gf.gv s d e2
        exact pe_ev (z_lit m3 (pe_glob (gl_of g k1) m1 m2 k2)) fun ρ m => by rw [ev]
      · cases h3
    · cases h
  | .stup _ _ _, X, sc, asg, cm, e, W, h, g, tk => by rw [okE_def] at h; cases h
  | .dct _ _ _, X, sc, asg, cm, e, W, h, g, tk => by rw [okE_def] at h; cases h
  | .dst _ _ _, X, sc, asg, cm, e, W, h, g, tk => by rw [okE_def] at h; cases h
  | .xat _, X, sc, asg, cm, e, W, h, g, tk => by rw [okE_def] at h; cases h
  | .own kp f o zs, X, sc, asg, cm, e, W, h, g, tk => by
    rw [okE_def] at h; dsimp only at h
    split at h
    · simp only [Bool.and_eq_true] at h
      obtain ⟨⟨⟨⟨⟨⟨h1, h2⟩, h3⟩, h4⟩, h5⟩, h6⟩, h7⟩ := h
      cases h1
      cases of_decide_eq_true h2
      cases List.isEmpty_iff.mp h3
      cases of_decide_eq_true h4
      exact pe_ev (z_bown (kp := kp) (call := callF P n) (b0 := base) g (gl_ok h5).1 h6 (okE_ok o h7 g tk)) fun ρ m => ev_ownB
    · simp only [Bool.and_eq_true] at h
      obtain ⟨⟨⟨h1, h2⟩, h3⟩, h4⟩ := h
      cases h1
      cases of_decide_eq_true h2
      cases zs with
      | nil => cases h4
      | cons z zs => cases zs with
        | nil => exact pe_ev (z_aown (kp := kp) (call := callF P n) (b0 := base) g (okE_ok o h3 g tk) (okE_ok z h4 g tk)) fun ρ m => ev_ownA
        | cons _ _ => cases h4
    · cases h
  | .lc2 _ _ _ _ _, X, sc, asg, cm, e, W, h, g, tk => by rw [okE_def] at h; cases h
theorem okEs_ok : ∀ (zs : List Z) {X : Cx} {sc : Scope} {asg : Str → Bool} {cm : Bool} {es : List Expr} {W : WX}, okEs P N sc asg cm zs es = true → GoodX Γ P fa n N sc asg cm X → Takes X W → PA X es (tA Γ base W (evs (ecOf P base (callF P n)) zs)) ∧ es.all noStar = true
  | [], X, sc, asg, cm, es, W, h, g, tk => by
    cases es with
    | nil => exact ⟨pa_ev z_nil fun ρ m => by rw [evs], rfl⟩
    | cons e es => rw [okEs] at h <;> first | cases h | (intros; simp_all)
  | z :: zs, X, sc, asg, cm, es, W, h, g, tk => by
    cases es with
    | nil => rw [okEs] at h <;> first | cases h | (intros; simp_all)
    | cons e es =>
      rw [okEs] at h
      simp only [Bool.and_eq_true] at h
      obtain ⟨⟨h1, h2⟩, h3⟩ := h
      have ih := okEs_ok zs h3 g tk
      exact ⟨pa_ev (z_cons (okE_ok z h2 g tk) ih.1 h1) fun ρ m => by rw [evs], by rw [List.all_cons, h1, ih.2]; rfl⟩
theorem okO_ok : ∀ (z : Option Z) {X : Cx} {sc : Scope} {asg : Str → Bool} {cm : Bool} {e : Option Expr} {W : WX}, okO P N sc asg cm z e = true → GoodX Γ P fa n N sc asg cm X → Takes X W → PO X e (tO Γ base W (evO (ecOf P base (callF P n)) z))
  | none, X, sc, asg, cm, e, W, h, g, tk => by
    rw [okO.eq_def] at h
    cases e with
    | none => exact po_ev z_noPart fun ρ m => by rw [evO]
    | some e => cases h
  | some z, X, sc, asg, cm, e, W, h, g, tk => by
    rw [okO.eq_def] at h
    cases e with
    | none => cases h
    | some e => exact po_ev (z_part (okE_ok z h g tk)) fun ρ m => by rw [evO] <;> rfl
theorem okP_ok : ∀ (z : Z) {X : Cx} {sc : Scope} {asg : Str → Bool} {cm : Bool} {e : Expr} {W : WX}, okP P N sc asg cm z e = true → GoodX Γ P fa n N sc asg cm X → Takes X W → PT X e (tT Γ base W (tst (ev (ecOf P base (callF P n)) z))) ∧ (isBO e = true → PW X e (tT Γ base W (tst (ev (ecOf P base (callF P n)) z))))
  | .not a, X, sc, asg, cm, e, W, h, g, tk => by
    rw [okP_def] at h; dsimp only at h
    split at h
    · have e1 : ev (ecOf P base (callF P n)) (.not a) = fun ρ m => (ev (ecOf P base (callF P n)) a ρ m).bind fun x m => (ofO (truth m x) m).bind fun k m => .ok (.bl (!k)) m := by funext ρ m; rw [ev]
      rw [e1, tst_not]
      exact ⟨zt_not (okP_ok a h g tk).1, fun q => by cases q⟩
    · cases h
  | .and a b, X, sc, asg, cm, e, W, h, g, tk => by
    rw [okP_def] at h; dsimp only at h
    split at h
    · rename_i x y rest pos
      rw [Bool.and_eq_true] at h
      have e1 : ev (ecOf P base (callF P n)) (.and a b) = fun ρ m => (ev (ecOf P base (callF P n)) a ρ m).bind fun x m => (ofO (truth m x) m).bind fun k m => if k = true then ev (ecOf P base (callF P n)) b ρ m else .ok x m := by funext ρ m; rw [ev]
      rw [e1, tst_and]
      have w : PW X (.BoolOp .And (x :: y :: rest) pos) (tT Γ base W fun ρ m => (tst (ev (ecOf P base (callF P n)) a) ρ m).bind fun k m => if k = true then tst (ev (ecOf P base (callF P n)) b) ρ m else .ok false m) := by
        cases rest with
        | nil => exact zt_and (okP_ok a h.1 g tk).1 (pw_and1 (okP_ok b h.2 g tk).1)
        | cons r rs => exact zt_and (okP_ok a h.1 g tk).1 ((okP_ok b h.2 g tk).2 rfl)
      exact ⟨w.pt, fun _ => w⟩
    · cases h
  | .or a b, X, sc, asg, cm, e, W, h, g, tk => by
    rw [okP_def] at h; dsimp only at h
    split at h
    · rename_i x y rest pos
      rw [Bool.and_eq_true] at h
      have e1 : ev (ecOf P base (callF P n)) (.or a b) = fun ρ m => (ev (ecOf P base (callF P n)) a ρ m).bind fun x m => (ofO (truth m x) m).bind fun k m => if k = true then .ok x m else ev (ecOf P base (callF P n)) b ρ m := by funext ρ m; rw [ev]
      rw [e1, tst_or]
      have w : PW X (.BoolOp .Or (x :: y :: rest) pos) (tT Γ base W fun ρ m => (tst (ev (ecOf P base (callF P n)) a) ρ m).bind fun k m => if k = true then .ok true m else tst (ev (ecOf P base (callF P n)) b) ρ m) := by
        cases rest with
        | nil => exact zt_or (okP_ok a h.1 g tk).1 (pw_or1 (okP_ok b h.2 g tk).1)
        | cons r rs => exact zt_or (okP_ok a h.1 g tk).1 ((okP_ok b h.2 g tk).2 rfl)
      exact ⟨w.pt, fun _ => w⟩
    · cases h
  | .cmp op a b, X, sc, asg, cm, e, W, h, g, tk => by
    rw [okP_def] at h; dsimp only at h
    split at h
    · simp only [Bool.and_eq_true] at h
      obtain ⟨⟨⟨h1, h2⟩, h3⟩, h4⟩ := h
      cases of_decide_eq_true h1
      have e1 : ev (ecOf P base (callF P n)) (.cmp op a b) = fun ρ m => (ev (ecOf P base (callF P n)) a ρ m).bind fun x m => (ev (ecOf P base (callF P n)) b ρ m).bind fun y m => (ofO (cmpD op x y m) m).bind fun k m => .ok (.bl k) m := by funext ρ m; rw [ev]
      rw [e1]
      exact ⟨zt_cmp g.gx (okE_ok a h3 g tk) (okE_ok b h4 g tk) h2, fun q => by cases q⟩
    · cases h
  | .chn op op2 a b d, X, sc, asg, cm, e, W, h, g, tk => by
    rw [okP_def] at h; dsimp only at h
    split at h
    · simp only [Bool.and_eq_true] at h
      obtain ⟨⟨⟨⟨⟨h1, h2⟩, h3⟩, h4⟩, h5⟩, h6⟩ := h
      cases of_decide_eq_true h1
      cases of_decide_eq_true h2
      have e1 : ev (ecOf P base (callF P n)) (.chn op op2 a b d) = fun ρ m => (ev (ecOf P base (callF P n)) a ρ m).bind fun x m => (ev (ecOf P base (callF P n)) b ρ m).bind fun y m => (ofO (cmpD op x y m) m).bind fun k m => if k = true then (ev (ecOf P base (callF P n)) d ρ m).bind fun z m => (ofO (cmpD op2 y z m) m).bind fun k m => .ok (.bl k) m else .ok (.bl false) m := by funext ρ m; rw [ev]
      rw [e1]
      exact ⟨zt_chn g.gx (okE_ok a h4 g tk) (okE_ok b h5 g tk) (okE_ok d h6 g tk) h3, fun q => by cases q⟩
    · cases h
  | .var i, X, sc, asg, cm, e, W, h, g, tk => by
    rw [okP_def] at h; dsimp only at h
    rw [Bool.and_eq_true] at h
    exact ⟨zt_val g.gx h.1 (okE_ok (.var i) h.2 g tk), fun q => (plain_bo h.1 q).elim⟩
  | .lit d, X, sc, asg, cm, e, W, h, g, tk => by
    rw [okP_def] at h; dsimp only at h
    rw [Bool.and_eq_true] at h
    exact ⟨zt_val g.gx h.1 (okE_ok (.lit d) h.2 g tk), fun q => (plain_bo h.1 q).elim⟩
  | .glo s d, X, sc, asg, cm, e, W, h, g, tk => by
    rw [okP_def] at h; dsimp only at h
    rw [Bool.and_eq_true] at h
    exact ⟨zt_val g.gx h.1 (okE_ok (.glo s d) h.2 g tk), fun q => (plain_bo h.1 q).elim⟩
  | .tup zs, X, sc, asg, cm, e, W, h, g, tk => by
    rw [okP_def] at h; dsimp only at h
    rw [Bool.and_eq_true] at h
    exact ⟨zt_val g.gx h.1 (okE_ok (.tup zs) h.2 g tk), fun q => (plain_bo h.1 q).elim⟩
  | .stup a b d, X, sc, asg, cm, e, W, h, g, tk => by
    rw [okP_def] at h; dsimp only at h
    rw [Bool.and_eq_true] at h
    exact ⟨zt_val g.gx h.1 (okE_ok (.stup a b d) h.2 g tk), fun q => (plain_bo h.1 q).elim⟩
  | .lst fz zs, X, sc, asg, cm, e, W, h, g, tk => by
    rw [okP_def] at h; dsimp only at h
    rw [Bool.and_eq_true] at h
    exact ⟨zt_val g.gx h.1 (okE_ok (.lst fz zs) h.2 g tk), fun q => (plain_bo h.1 q).elim⟩
  | .dct fz a b, X, sc, asg, cm, e, W, h, g, tk => by
    rw [okP_def] at h; dsimp only at h
    rw [Bool.and_eq_true] at h
    exact ⟨zt_val g.gx h.1 (okE_ok (.dct fz a b) h.2 g tk), fun q => (plain_bo h.1 q).elim⟩
  | .dst fz a b, X, sc, asg, cm, e, W, h, g, tk => by
    rw [okP_def] at h; dsimp only at h
    rw [Bool.and_eq_true] at h
    exact ⟨zt_val g.gx h.1 (okE_ok (.dst fz a b) h.2 g tk), fun q => (plain_bo h.1 q).elim⟩
  | .bin op fz a b, X, sc, asg, cm, e, W, h, g, tk => by
    rw [okP_def] at h; dsimp only at h
    rw [Bool.and_eq_true] at h
    exact ⟨zt_val g.gx h.1 (okE_ok (.bin op fz a b) h.2 g tk), fun q => (plain_bo h.1 q).elim⟩
  | .neg a, X, sc, asg, cm, e, W, h, g, tk => by
    rw [okP_def] at h; dsimp only at h
    rw [Bool.and_eq_true] at h
    exact ⟨zt_val g.gx h.1 (okE_ok (.neg a) h.2 g tk), fun q => (plain_bo h.1 q).elim⟩
  | .ite t a b, X, sc, asg, cm, e, W, h, g, tk => by
    rw [okP_def] at h; dsimp only at h
    rw [Bool.and_eq_true] at h
    exact ⟨zt_val g.gx h.1 (okE_ok (.ite t a b) h.2 g tk), fun q => (plain_bo h.1 q).elim⟩
  | .att a f, X, sc, asg, cm, e, W, h, g, tk => by
    rw [okP_def] at h; dsimp only at h
    rw [Bool.and_eq_true] at h
    exact ⟨zt_val g.gx h.1 (okE_ok (.att a f) h.2 g tk), fun q => (plain_bo h.1 q).elim⟩
  | .xat f, X, sc, asg, cm, e, W, h, g, tk => by
    rw [okP_def] at h; dsimp only at h
    rw [Bool.and_eq_true] at h
    exact ⟨zt_val g.gx h.1 (okE_ok (.xat f) h.2 g tk), fun q => (plain_bo h.1 q).elim⟩
  | .sub a i, X, sc, asg, cm, e, W, h, g, tk => by
    rw [okP_def] at h; dsimp only at h
    rw [Bool.and_eq_true] at h
    exact ⟨zt_val g.gx h.1 (okE_ok (.sub a i) h.2 g tk), fun q => (plain_bo h.1 q).elim⟩
  | .slc fz a lo hi, X, sc, asg, cm, e, W, h, g, tk => by
    rw [okP_def] at h; dsimp only at h
    rw [Bool.and_eq_true] at h
    exact ⟨zt_val g.gx h.1 (okE_ok (.slc fz a lo hi) h.2 g tk), fun q => (plain_bo h.1 q).elim⟩
  | .rev fz a, X, sc, asg, cm, e, W, h, g, tk => by
    rw [okP_def] at h; dsimp only at h
    rw [Bool.and_eq_true] at h
    exact ⟨zt_val g.gx h.1 (okE_ok (.rev fz a) h.2 g tk), fun q => (plain_bo h.1 q).elim⟩
  | .call kp f zs, X, sc, asg, cm, e, W, h, g, tk => by
    rw [okP_def] at h; dsimp only at h
    rw [Bool.and_eq_true] at h
    exact ⟨zt_val g.gx h.1 (okE_ok (.call kp f zs) h.2 g tk), fun q => (plain_bo h.1 q).elim⟩
  | .met kp f o zs, X, sc, asg, cm, e, W, h, g, tk => by
    rw [okP_def] at h; dsimp only at h
    rw [Bool.and_eq_true] at h
    exact ⟨zt_val g.gx h.1 (okE_ok (.met kp f o zs) h.2 g tk), fun q => (plain_bo h.1 q).elim⟩
  | .wal, X, sc, asg, cm, e, W, h, g, tk => by
    have z : ∀ (σ : L2.St) (H : Hp) (Q : Bool → Hp → Prop), tT Γ base W (tst (ev (ecOf P base (callF P n)) .wal)) σ H Q → False := fun σ H Q ⟨bs, G, ι, F, ρ, m, sr, hr, h⟩ => by
      unfold tst at h; rw [ev] at h; exact h.elim
    exact ⟨⟨fun pins s σ H Q I h => (z _ _ _ h).elim⟩, fun _ => ⟨fun _ pins s σ H Q I h => (z _ _ _ h).elim⟩⟩
  | .own kp f o zs, X, sc, asg, cm, e, W, h, g, tk => by
    rw [okP_def] at h; dsimp only at h
    rw [Bool.and_eq_true, Bool.or_eq_true] at h
    rcases h with ⟨h0, h | h⟩
    · exact ⟨zt_val g.gx h0 (okE_ok (.own kp f o zs) h g tk), fun q => (plain_bo h0 q).elim⟩
    · obtain ⟨rfl, rfl, rfl, h1⟩ := okB_inv h
      have ee : ev (ecOf P base (callF P n)) (.own kp "__bool__" o []) = own0 (ev (ecOf P base (callF P n)) o) (ecOf P base (callF P n)).meth "__bool__" (kOwn0 P n kp "__bool__") := by
        funext ρ m; exact ev_ownB
      rw [ee]
      exact ⟨zt_own (kp := kp) (call := callF P n) (b0 := base) g h0 (okE_ok o h1 g tk), fun q => (plain_bo h0 q).elim⟩
  | .mk fz k zs, X, sc, asg, cm, e, W, h, g, tk => by
    rw [okP_def] at h; dsimp only at h
    rw [Bool.and_eq_true] at h
    exact ⟨zt_val g.gx h.1 (okE_ok (.mk fz k zs) h.2 g tk), fun q => (plain_bo h.1 q).elim⟩
  | .blt b fz zs, X, sc, asg, cm, e, W, h, g, tk => by
    rw [okP_def] at h; dsimp only at h
    rw [Bool.and_eq_true] at h
    exact ⟨zt_val g.gx h.1 (okE_ok (.blt b fz zs) h.2 g tk), fun q => (plain_bo h.1 q).elim⟩
  | .bmt b fz o zs, X, sc, asg, cm, e, W, h, g, tk => by
    rw [okP_def] at h; dsimp only at h
    rw [Bool.and_eq_true] at h
    exact ⟨zt_val g.gx h.1 (okE_ok (.bmt b fz o zs) h.2 g tk), fun q => (plain_bo h.1 q).elim⟩
  | .isi a ts, X, sc, asg, cm, e, W, h, g, tk => by
    rw [okP_def] at h; dsimp only at h
    rw [Bool.and_eq_true] at h
    exact ⟨zt_val g.gx h.1 (okE_ok (.isi a ts) h.2 g tk), fun q => (plain_bo h.1 q).elim⟩
  | .lc a b d e1, X, sc, asg, cm, e, W, h, g, tk => by
    rw [okP_def] at h; dsimp only at h
    rw [Bool.and_eq_true] at h
    exact ⟨zt_val g.gx h.1 (okE_ok (.lc a b d e1) h.2 g tk), fun q => (plain_bo h.1 q).elim⟩
  | .lc2 a b d e1 e2, X, sc, asg, cm, e, W, h, g, tk => by
    rw [okP_def] at h; dsimp only at h
    rw [Bool.and_eq_true] at h
    exact ⟨zt_val g.gx h.1 (okE_ok (.lc2 a b d e1 e2) h.2 g tk), fun q => (plain_bo h.1 q).elim⟩
  | .dc a b d e1 e2 e3, X, sc, asg, cm, e, W, h, g, tk => by
    rw [okP_def] at h; dsimp only at h
    rw [Bool.and_eq_true] at h
    exact ⟨zt_val g.gx h.1 (okE_ok (.dc a b d e1 e2 e3) h.2 g tk), fun q => (plain_bo h.1 q).elim⟩
theorem okPs_ok : ∀ (zs : List Z) {X : Cx} {sc : Scope} {asg : Str → Bool} {cm : Bool} {es : List Expr} {W : WX}, okPs P N sc asg cm zs es = true → GoodX Γ P fa n N sc asg cm X → Takes X W → PTs X es (tT Γ base W (evTs (ecOf P base (callF P n)) zs))
  | [], X, sc, asg, cm, es, W, h, g, tk => by
    cases es with
    | nil =>
      refine Zi.PTs.imp pts_nil fun σ H Q ⟨bs, G, ι, F, ρ, m, sr, hr, h⟩ => ?_
      rw [evTs] at h
      exact h true ι F H (Ext.refl _ _) hr rfl
    | cons e es => rw [okPs.eq_def] at h; cases h
  | [z], X, sc, asg, cm, es, W, h, g, tk => by
    cases es with
    | nil => rw [okPs.eq_def] at h; cases h
    | cons e es =>
      cases es with
      | nil =>
        have h' : okP P N sc asg cm z e = true := by rw [okPs.eq_def] at h; exact h
        have e1 : evTs (ecOf P base (callF P n)) [z] = tst (ev (ecOf P base (callF P n)) z) := by
          funext ρ m
          rw [evTs]
          unfold tst
          congr 1; funext x m
          cases truth m x with
          | none => rfl
          | some k => cases k <;> (simp only [evTs]; rfl)
        rw [e1]
        exact pts_one (okP_ok z h' g tk).1
      | cons => rw [okPs.eq_def] at h; cases h
  | z :: _ :: _, X, sc, asg, cm, es, W, h, g, tk => by rw [okPs.eq_def] at h; cases h
theorem okI_ok : ∀ (it : It) {X : Cx} {sc : Scope} {asg : Str → Bool} {cm : Bool} {e t : Expr} {W : WX}, okI P N sc asg cm it e t = true → GoodX Γ P fa n N sc asg cm X → Takes X W → PI X t e (tI Γ base W (evI (ecOf P base (callF P n)) it))
  | .seq z, X, sc, asg, cm, e, t, W, h, g, tk => by
    rw [okI.eq_def] at h; dsimp only at h
    exact pi_ev (pi_seqZ g.gx (okE_ok z h g tk)) fun ρ m => by rw [evI]
  | .rng zs, X, sc, asg, cm, e, t, W, h, g, tk => by
    rw [okI.eq_def] at h; dsimp only at h
    split at h
    · rename_i es _
      simp only [Bool.and_eq_true, Bool.or_eq_true] at h
      obtain ⟨⟨⟨h1, h2⟩, h3⟩, h4⟩ := h
      cases of_decide_eq_true h1
      have gl := gl_of g (gl_ok h2).1
      have mg := g.gf.blt "range" (by decide)
      cases es with
      | nil => simp at h4
      | cons a es =>
        cases zs with
        | nil => rw [okEs.eq_def] at h3; cases h3
        | cons z zs =>
          rw [okEs] at h3
          simp only [Bool.and_eq_true] at h3
          obtain ⟨⟨s1, s2⟩, s3⟩ := h3
          cases es with
          | nil =>
            cases zs with
            | cons => rw [okEs.eq_def] at s3; cases s3
            | nil =>
              refine pi_ev (pi_rng1Z gl mg (okE_ok z s2 g tk) (by rw [star_cons s1]; rfl) (star_cons s1 _ _)) fun ρ m => ?_
              rw [evI]
              simp only [evs]
              rw [bind_assoc]
              rfl
          | cons b es =>
            cases zs with
            | nil => rw [okEs.eq_def] at s3; cases s3
            | cons w zs =>
              rw [okEs] at s3
              simp only [Bool.and_eq_true] at s3
              obtain ⟨⟨t1, t2⟩, t3⟩ := s3
              cases es with
              | cons => simp at h4
              | nil =>
                cases zs with
                | cons => rw [okEs.eq_def] at t3; cases t3
                | nil =>
                  refine pi_ev (pi_rng2Z gl mg (okE_ok z s2 g tk) (okE_ok w t2 g tk) (by rw [star_cons s1, star_cons t1]; rfl) (star_cons s1 _ _) (star_cons t1 _ _)) fun ρ m => ?_
                  rw [evI]
                  simp only [evs]
                  rw [bind_assoc]
                  congr 1; funext x m
                  rw [bind_assoc, bind_assoc]
                  rfl
    · cases h
  | .enu z, X, sc, asg, cm, e, t, W, h, g, tk => by
    rw [okI.eq_def] at h; dsimp only at h
    split at h
    · simp only [Bool.and_eq_true] at h
      obtain ⟨⟨⟨h1, h2⟩, h3⟩, h4⟩ := h
      cases of_decide_eq_true h1
      exact pi_ev (pi_enuZ g.gx (gl_of g (gl_ok h2).1) (g.gf.blt "enumerate" (by decide)) (okE_ok z h4 g tk) (by rw [star_cons h3]; rfl) (star_cons h3 _ _)) fun ρ m => by rw [evI]
    · cases h
  | .zip z1 z2, X, sc, asg, cm, e, t, W, h, g, tk => by
    rw [okI.eq_def] at h; dsimp only at h
    split at h
    · simp only [Bool.and_eq_true] at h
      obtain ⟨⟨⟨⟨⟨h1, h2⟩, h3⟩, h4⟩, h5⟩, h6⟩ := h
      cases of_decide_eq_true h1
      exact pi_ev (pi_zipZ g.gx (gl_of g (gl_ok h2).1) (g.gf.blt "zip" (by decide)) (okE_ok z1 h5 g tk) (okE_ok z2 h6 g tk) (star_cons h3 _ _) (star_cons h4 _ _) (star_all (by rw [List.all_cons, h4]; rfl) _ _).1) fun ρ m => by rw [evI]
    · cases h
  | .itm z, X, sc, asg, cm, e, t, W, h, g, tk => by
    rw [okI.eq_def] at h; dsimp only at h
    split at h
    · simp only [Bool.and_eq_true] at h
      obtain ⟨⟨⟨h1, h2⟩, h3⟩, h4⟩ := h
      cases of_decide_eq_true h1
      exact pi_ev (pi_itmZ g.gx (okE_ok z h4 g tk) (att_base h2 _ _ _) h3) fun ρ m => by rw [evI] <;> rfl
    · cases h
  | .val z, X, sc, asg, cm, e, t, W, h, g, tk => by
    rw [okI.eq_def] at h; dsimp only at h
    split at h
    · simp only [Bool.and_eq_true] at h
      obtain ⟨⟨⟨h1, h2⟩, h3⟩, h4⟩ := h
      cases of_decide_eq_true h1
      exact pi_ev (pi_valZ g.gx (okE_ok z h4 g tk) (att_base h2 _ _ _) h3) fun ρ m => by rw [evI] <;> rfl
    · cases h
end
end
end Zi
set_option maxHeartbeats 16000000
/-! Z9d: what the model asks about a store's form, by the scope alone. -/
namespace Zi
open PySem PySem.Spec PyProof.Rows L2
def bkS (sc : Scope) : ScopeKind := if sc.kind.isAnnotationScope then .function else sc.kind
/-- a comprehension that is set to a local name at once -/
def swpB (sc : Scope) (e t : Expr) : Bool := match e with
  | .ListComp _ _ s _ | .SetComp _ _ s _ | .DictComp _ _ _ s _ => (match t with
    | .Name x p => bkS sc == .function && sc.names.lookup x == some .local && p.line == e.pos.line && !(s.names.any fun q => q.1 == x && (q.2 == .local || q.2 == .cell))
    | _ => false)
  | _ => false
theorem swp_ok {X : Cx} {sc : Scope} (h : X.env.scope = sc) (e t : Expr) (line : Nat) : swapsWith e (some t) line X.env = Pure.pure (swpB sc e t) := by
  subst h
  unfold swapsWith swpB
  cases e <;> first
    | rfl
    | (cases t <;> rfl)
/-- a value that is no comprehension -/
def noCm : Expr → Bool
  | .ListComp _ _ _ _ => false
  | .SetComp _ _ _ _ => false
  | .DictComp _ _ _ _ _ => false
  | _ => true
theorem swn_ok {X : Cx} {e : Expr} (h : noCm e = true) (line : Nat) : swapsWith e none line X.env = Pure.pure false := by
  unfold swapsWith
  cases e <;> first | rfl | cases h
def oneS : Stmt → Bool
  | _ => true
/-- the stores that are made right to left -/
def stB (sc : Scope) (t e : Expr) : Option (Option (List Str)) :=
  match t, e with
  | .Tuple ts _ _, .Tuple vs _ _ | .List ts _, .Tuple vs _ _ =>
    if !(ts.length == 2 || ts.length == 3) || vs.length != ts.length || bkS sc != .function then some none
    else if (vs.any fun | .Starred .. => true | _ => false) then some none
    else
      let line := (ts.head?.map (·.pos.line)).getD 0
      let names := ts.filterMap fun
        | .Name id pos => if sc.names.lookup id == some .local && pos.line == line then some id else none
        | _ => none
      if names.length != ts.length || names.eraseDups.length != names.length then some none
      else if vs.all (foldedForSure 8) then some none
      else if vs.all (constantsAlone 8) then none
      else some (some names)
  | _, _ => some none
theorem st_ok {X : Cx} {sc : Scope} (h : X.env.scope = sc) (t e : Expr) {r : Option (List Str)} (q : stB sc t e = some r) : swappedStores [t] e X.env = Pure.pure r := by
  subst h
  unfold stB at q
  unfold swappedStores
  split at q
  · dsimp only
    split at q
    · rename_i c; cases q; exact if_pos c
    · rename_i c
      refine Eq.trans (if_neg c) ?_
      split at q
      · rename_i c; cases q; exact if_pos c
      · rename_i c
        refine Eq.trans (if_neg c) ?_
        dsimp only at q
        split at q
        · rename_i c; cases q; exact if_pos c
        · rename_i c
          refine Eq.trans (if_neg c) ?_
          split at q
          · rename_i c; cases q; exact if_pos c
          · rename_i c
            refine Eq.trans (if_neg c) ?_
            split at q
            · cases q
            · rename_i c; cases q; exact if_neg c
  · dsimp only
    split at q
    · rename_i c; cases q; exact if_pos c
    · rename_i c
      refine Eq.trans (if_neg c) ?_
      split at q
      · rename_i c; cases q; exact if_pos c
      · rename_i c
        refine Eq.trans (if_neg c) ?_
        dsimp only at q
        split at q
        · rename_i c; cases q; exact if_pos c
        · rename_i c
          refine Eq.trans (if_neg c) ?_
          split at q
          · rename_i c; cases q; exact if_pos c
          · rename_i c
            refine Eq.trans (if_neg c) ?_
            split at q
            · cases q
            · rename_i c; cases q; exact if_neg c
  · rename_i n1 n2
    cases q
    cases t with
    | Tuple => cases e with
      | Tuple => exact (n1 _ _ _ _ _ _ rfl rfl).elim
      | _ => rfl
    | List => cases e with
      | Tuple => exact (n2 _ _ _ _ _ rfl rfl).elim
      | _ => rfl
    | _ => rfl
end Zi
set_option maxHeartbeats 16000000
/-! Z9e: targets, in general. -/
namespace Zi
open PySem PySem.Spec PyProof.Rows L2
section
variable (P : ZP) (N : List Str)
mutual
def okT (sc : Scope) (asg : Str → Bool) (cm : Bool) : T → Expr → Bool
  | .nm i, e₀ => match e₀ with
    | .Name x _ => decide (N[i]? = some x) && setB sc asg x
    | _ => false
  | .tp ts, e₀ => match e₀ with
    | .Tuple es _ _ => cm && okTs sc asg cm ts es
    | _ => false
  | .sb o i, e₀ => match e₀ with
    | .Subscript x y _ => noSl y && okE P N sc asg cm o x && okE P N sc asg cm i y
    | _ => false
  | .at _ _, _ => false
def okTs (sc : Scope) (asg : Str → Bool) (cm : Bool) : List T → List Expr → Bool
  | [], [] => true
  | t :: ts, e :: es => noStar e && okT sc asg cm t e && okTs sc asg cm ts es
  | _, _ => false
end
end
section
variable {P : ZP} {N : List Str} {Γ : Gl0} {fa : String → Addr} {n base : Nat}
theorem pg_ev {X : Cx} {W : WX} {e : Expr} {f g : D → Ev → MH → R Ev} (p : PG X e (tG Γ base W f)) (h : ∀ d ρ m, g d ρ m = f d ρ m) : PG X e (tG Γ base W g) := by
  have : g = f := by funext d ρ m; exact h d ρ m
  rw [this]; exact p
theorem pgs_ev {X : Cx} {e : List Expr} {f g : List D → Ev → MH → R Ev} (p : PGs X e (tGs Γ base f)) (h : ∀ d ρ m, g d ρ m = f d ρ m) : PGs X e (tGs Γ base g) := by
  have : g = f := by funext d ρ m; exact h d ρ m
  rw [this]; exact p
mutual
theorem okT_ok : ∀ (t : T) {X : Cx} {sc : Scope} {asg : Str → Bool} {cm : Bool} {e : Expr} {W : WX}, okT P N sc asg cm t e = true → GoodX Γ P fa n N sc asg cm X → Takes X W → PG X e (tG Γ base W (asgT (ecOf P base (callF P n)) t))
  | .nm i, X, sc, asg, cm, e, W, h, g, tk => by
    rw [okT.eq_def] at h; dsimp only at h
    split at h
    · rw [Bool.and_eq_true, decide_eq_true_eq] at h
      exact pg_ev (g_nm g h.1 (set_ok h.2)) fun d ρ m => by rw [asgT]
    · cases h
  | .tp ts, X, sc, asg, cm, e, W, h, g, tk => by
    rw [okT.eq_def] at h; dsimp only at h
    split at h
    · rw [Bool.and_eq_true] at h
      cases h.1
      obtain ⟨h1, h2, h3⟩ := okTs_ok ts h.2 g
      refine pg_ev (g_tp g h1 h2) fun d ρ m => ?_
      cases d <;> simp only [asgT, h3]
    · cases h
  | .sb o i, X, sc, asg, cm, e, W, h, g, tk => by
    rw [okT.eq_def] at h; dsimp only at h
    split at h
    · simp only [Bool.and_eq_true] at h
      obtain ⟨⟨h1, h2⟩, h3⟩ := h
      exact pg_ev (g_sb g (okE_ok o h2 g tk) (okE_ok i h3 g tk) h1) fun d ρ m => by rw [asgT]; rfl
    · cases h
  | .at o f, X, sc, asg, cm, e, W, h, g, tk => by rw [okT.eq_def] at h; cases h
theorem okTs_ok : ∀ (ts : List T) {X : Cx} {sc : Scope} {asg : Str → Bool} {cm : Bool} {es : List Expr}, okTs P N sc asg cm ts es = true → GoodX Γ P fa n N sc asg cm X → PGs X es (tGs Γ base (asgTs (ecOf P base (callF P n)) ts)) ∧ es.all noStar = true ∧ es.length = ts.length
  | [], X, sc, asg, cm, es, h, g => by
    cases es with
    | nil => exact ⟨pgs_ev gs_nil fun d ρ m => by cases d <;> simp only [asgTs], rfl, rfl⟩
    | cons e es => rw [okTs.eq_def] at h; cases h
  | t :: ts, X, sc, asg, cm, es, h, g => by
    cases es with
    | nil => rw [okTs.eq_def] at h; cases h
    | cons e es =>
      rw [okTs] at h
      simp only [Bool.and_eq_true] at h
      obtain ⟨⟨h1, h2⟩, h3⟩ := h
      obtain ⟨i1, i2, i3⟩ := okTs_ok ts h3 g
      refine ⟨pgs_ev (gs_cons (okT_ok t h2 g takes_no) i1 h1) fun d ρ m => by cases d <;> simp only [asgTs], ?_, by rw [List.length_cons, List.length_cons, i3]⟩
      rw [List.all_cons, h1, i2]; rfl
end
end
end Zi
set_option maxHeartbeats 16000000
/-! Z9f: an attribute is set. -/
namespace Zi
open PySem PySem.Spec PyProof.Rows L2
section
variable {X : Cx} {Γ : Gl0} {P : ZP} {fa : String → Addr} {n : Nat} {N : List Str} {sc : Scope} {asg : Str → Bool} {cm : Bool} {base : Nat} {W : WX} {e o : Expr} {pos p2 : Pos} {f1 f2 : Ev → MH → R D}
theorem denF_len {ι : List Addr} {F : Hp} : ∀ {fs : Fs} {vs : List (Str × V)}, DenF Γ ι F fs vs → vs.length = fs.length
  | [], vs, h => by cases (show vs = [] from h); rfl
  | (f, d) :: r, vs, h => by
    obtain ⟨v, vs', ⟨rfl, _⟩, _, h2⟩ := h
    rw [List.length_cons, List.length_cons, denF_len h2]
theorem s_fld {fn : String} {call : Nat → String → List D → MH → R D} {b0 : Nat} (g : GoodX Γ P fa n N sc asg cm X) (h1 : PE X o (tE Γ base W f1)) (h2 : PE X e (tE Γ base W f2)) (hs : swapsWith e (some (.Attribute o (Str.ofString fn) p2)) pos.line X.env = Pure.pure false) (ha : asc fn = true) :
    PS X (.Assign [.Attribute o (Str.ofString fn) p2] e pos) (tSZ Γ base W fun ρ m => (f2 ρ m).st ρ fun x m => ((f1 ρ m).bind fun y m => (setA base (ecOf P b0 call).fld y fn x m).bind fun _ m => .ok ρ m).st ρ fun ρ' m => .ok (.nx ρ') m) := by
  refine PS.imp (ps_fld h1 h2 hs) fun D σ H ⟨bs, G, ι, F, ρ, m, sr, hr, h⟩ => ?_
  refine ⟨bs, G, ι, F, ρ, m, sr, hr, (PstS.st (rel := Den Γ) hr.baseLe sr h).imp fun x H1 ⟨ι1, F1, d, m1, e1, hr1, dx, sr1, h1⟩ => ?_⟩
  rw [st_bind] at h1
  refine ⟨bs, G, ι1, F1, ρ, m1, sr1, hr1, (PstS.st (rel := Den Γ) hr1.baseLe sr1 h1).imp fun y H2 ⟨ι2, F2, d2, m2, e2, hr2, dy, sr2, h2⟩ => ?_⟩
  have dx := dx.mono e2
  cases d2 with
  | ref j =>
    unfold setA at h2
    dsimp only at h2
    split at h2
    · rename_i c fs hm
      split at h2
      · rename_i hc
        obtain ⟨a, ho, rfl, q2, q3, q4, q5, dd, vs, rfl, q6⟩ := hr2.ref hm dy
        obtain ⟨q, k1, k2⟩ := fld_of hc.1
        obtain ⟨_, cf, _⟩ := g.gf.cls c q k1
        have na := g.gf.fld c q fn k1 k2
        rw [g.gx.K] at cf na
        refine ⟨a, _, dd, vs, rfl, q5, cf.cl, na, by rw [denF_len q6]; exact hc.2, ?_⟩
        unfold Zi.put at h2
        split at h2
        · rename_i cc
          have hr3 := hr2.change q2 hm (o := .ins c (fput fs fn d)) (ho := .ins (Γ.ca c) dd (putF (Str.ofString fn) x vs)) ⟨dd, _, rfl, DenF.put ha dx q6⟩ (cc.imp id fun hp n hb => belowF_put (pure_below n _ hp) hb)
          exact PstS.nx hr3 sr2 h2
        · exact h2.elim
      · exact h2.elim
    · exact h2.elim
  | _ => exact h2.elim
end
end Zi
set_option maxHeartbeats 16000000
/-! Z9g: statements: the checker and its soundness. -/
namespace Zi
open PySem PySem.Spec PyProof.Rows L2
/-! ### o[i] op= e -/
section
variable {X : Cx} {Γ : Gl0} {P : ZP} {fa : String → Addr} {n : Nat} {N : List Str} {sc : Scope} {asg : Str → Bool} {cm : Bool} {base : Nat} {W : WX} {e o i : Expr} {pos p2 : Pos} {f1 f2 f3 : Ev → MH → R D}
theorem get_subZ (g : Gx Γ X) : PGet X (rSub Γ base) := by
  intro pins s σ H x y v u Q I rx ry ⟨bs, G, ι, F, m, dx, dy, d, R, hx, hy, h, q⟩
  have hu := g.u
  unfold subD at h
  split at h
  · rename_i ds k e
    obtain ⟨j, e1, e2⟩ := Option.bind_eq_some_iff.mp h
    obtain ⟨a, vs, rfl, k1, d1⟩ := R.getS e hx
    obtain ⟨z, hz, hd⟩ := d1.get e2
    cases hy
    have at_ : atI vs k = some z := atI_of (by rw [← d1.length]; exact e1) hz
    rw [g.K] at k1
    cases rx
    obtain ⟨t, rfl⟩ := ry
    have hn := line63
    obtain ⟨j', h1, h2, h3, h4, h5⟩ := atI_get at_
    rcases k1 with k1 | k1
    · obtain ⟨its, r, pl, hz'⟩ := I.list k1
      obtain ⟨w, ew, rw'⟩ := r.get h2
      have hl := r.length
      have fin : EP X pins σ Q w s := ⟨z, H, I, rw', q z hd⟩
      by_cases h0 : 0 ≤ k
      · have hj : k.toNat = j' := by
          rw [seqIndex_of h0 h5] at h1
          exact Option.some.inj h1
        exact wpAny_getItem_list pl.isList h0 (by omega) (by rw [hj]; simpa using ew) fin
      · have hj : (k + (its.toArray.size : Int)).toNat = j' := by
          rw [seqIndex_neg (by omega) h4] at h1
          rw [List.size_toArray, ← hl]
          exact Option.some.inj h1
        exact wpAny_getItem_list_neg pl.isList (by omega) (by rw [List.size_toArray] <;> omega) (by omega) (by rw [hj]; simpa using ew) fin
    · obtain ⟨its, r, pl, hz'⟩ := I.tuple k1
      obtain ⟨w, ew, rw'⟩ := r.get h2
      have hl := r.length
      have fin : EP X pins σ Q w s := ⟨z, H, I, rw', q z hd⟩
      exact getItem_tuple (j := j') pl (by omega) (by omega) (by rw [List.size_toArray, ← hl]; exact h1) (by simpa using ew) fin
  · split at h
    · rename_i z k _
      split at h
      · rename_i c
        obtain ⟨j, e1, e2⟩ := Option.bind_eq_some_iff.mp h
        obtain ⟨cc, e3, e4⟩ := Option.map_eq_some_iff.mp e2
        subst e4
        cases hx; cases hy
        obtain ⟨t, rfl⟩ := rx
        obtain ⟨t', rfl⟩ := ry
        obtain ⟨j, h1, h2, h3, h4, h5⟩ := atI_get (atI_of e1 e3)
        have hl : z.cps.toList.length = z.length := by simp [Str.length]
        rw [hl] at h1 h4 h5
        have hn := line63
        have c' : z.length ≤ sizeLine := by rw [sizeLine_eq]; exact c
        exact getItem_str (c := cc) (by
          have e1 : decide (k < -(2 ^ 63 : Int)) = false := decide_eq_false (by omega)
          have e2 : decide (k ≥ 2 ^ 63) = false := decide_eq_false (by omega)
          rw [e1, e2, Bool.or_false]) (by rw [h1]; simpa using h2) ⟨.str ⟨#[cc]⟩, H, I.tok _, ⟨_, rfl⟩, q _ rfl⟩
      · cases h
    · split at h
      · rename_i t kvs e
        obtain ⟨kk, e1, e2⟩ := Option.bind_eq_some_iff.mp h
        obtain ⟨a, o, rfl, ha, hd⟩ := R.getK e hx
        cases rx
        rcases hd with ⟨rfl, es, rfl, hd⟩ | ⟨rfl, es, rfl, hd⟩
        · obtain ⟨qk, rfl, rfl⟩ := keyFor_f e1
          have ex := Den.key hy
          subst ex
          obtain ⟨w', z1, z2⟩ := (hd.get qk).1 d e2
          exact d_getItem (by omega) I (.inl ⟨_, _, ha, rfl, z1.symm⟩) ry fun w2 s' I' r' => ⟨w', H, I', r', q w' z2⟩
        · obtain ⟨ds, qk, rfl, rfl, _, n1, n2, n3⟩ := keyFor_t e1
          obtain ⟨z1, z2, vs, pt, dd⟩ := tdict_of I g.K g.w R.f ha hd
          obtain ⟨b, rfl, rfl, key⟩ := Den.keyed I g.K R.f n1 n2 n3 hy ry
          obtain ⟨w', p', u', y1, y2, y3⟩ := (hd.get pt qk n2).1 d e2
          exact wpAny_getItem_heap (in1_units8 hu) key dd y1 ⟨w', H, I.tok _, y2, q w' y3⟩
      · cases h
  · cases h
theorem s_augS {op : Operator} (g : GoodX Γ P fa n N sc asg cm X) (h1 : PE X o (tE Γ base W f1)) (h2 : PE X i (tE Γ base W f2)) (h3 : PE X e (tE Γ base W f3)) (hs : noSl i = true) :
    PS X (.AugAssign (.Subscript o i p2) op e pos) (tSZ Γ base W fun ρ m => (f1 ρ m).st ρ fun x m => (f2 ρ m).st ρ fun k m => (ofO (subD x k m) m).st ρ fun old m => (f3 ρ m).st ρ fun y m => (iopD base op old y m).st ρ fun z m => (setD base x k z m).st ρ fun _ m => .ok (.nx ρ) m) := by
  refine PS.imp (ps_augS h1 h2 (get_subZ (base := base) g.gx) h3 (iopZ (base := base) g.gx op) (set_itemZ (base := base) g.gx) (fun ov iv new => by cases i <;> first | rfl | cases hs)) fun D σ H ⟨bs, G, ι, F, ρ, m, sr, hr, h⟩ => ?_
  refine ⟨bs, G, ι, F, ρ, m, sr, hr, (PstS.st (rel := Den Γ) hr.baseLe sr h).imp fun x H1 ⟨ι1, F1, d1, m1, e1, hr1, dx, sr1, h1⟩ => ?_⟩
  refine ⟨bs, G, ι1, F1, ρ, m1, sr1, hr1, (PstS.st (rel := Den Γ) hr1.baseLe sr1 h1).imp fun k H2 ⟨ι2, F2, d2, m2, e2, hr2, dk, sr2, h2⟩ => ?_⟩
  cases q : subD d1 d2 m2 with
  | none => rw [q] at h2; exact h2.elim
  | some d3 =>
    rw [q] at h2
    have h2 : PstS ⟨Γ, base, bs, G⟩ ι2 F2 D W ((f3 ρ m2).st ρ fun y m => (iopD base op d3 y m).st ρ fun z m => (setD base d1 d2 z m).st ρ fun _ m => .ok (.nx ρ) m) := h2
    refine ⟨bs, G, ι2, F2, m2, d1, d2, d3, hr2, dx.mono e2, dk, q, fun old dold => ?_⟩
    refine ⟨bs, G, ι2, F2, ρ, m2, sr2, hr2, (PstS.st (rel := Den Γ) hr2.baseLe sr2 h2).imp fun y H4 ⟨ι3, F3, d4, m3, e3, hr3, dy, sr3, h3⟩ => ?_⟩
    refine ⟨bs, G, ι3, F3, m3, d3, d4, _, hr3, dold.mono e3, dy, (PstS.st (rel := Den Γ) hr3.baseLe sr3 h3).imp fun z H5 ⟨ι4, F4, d5, m4, e4, hr4, dz, sr4, h4⟩ => ?_⟩
    refine ⟨bs, G, ι4, F4, m4, d1, d2, d5, _, hr4, ((dx.mono e2).mono e3).mono e4, (dk.mono e3).mono e4, dz, (PstS.st (rel := relU) hr4.baseLe sr4 h4).imp fun _ H6 ⟨ι5, F5, _, m5, e5, hr5, _, sr5, h5⟩ => ?_⟩
    exact PstS.nx hr5 sr5 h5
end
end Zi
set_option maxHeartbeats 16000000
/-! Z9h: statements: the checker. -/
namespace Zi
open PySem PySem.Spec PyProof.Rows L2
section
variable (P : ZP) (N : List Str)
def isCm : Expr → Bool
  | .ListComp _ _ _ _ | .DictComp _ _ _ _ _ => true
  | _ => false
def isCz : Z → Bool
  | .lc _ _ _ _ | .dc _ _ _ _ _ _ => true
  | _ => false
def locB (sc : Scope) (x : Str) : Bool := decide (sc.names.lookup x = some .local)
/-- an assignment, by its form -/
def asgB (sc : Scope) (asg : Str → Bool) (cm : Bool) (t : T) (z : Z) (tg e : Expr) : Bool :=
  (noStar tg && decide (stB sc tg e = some none) && !swpB sc e tg && okE P N sc asg cm z e && okT P N sc asg cm t tg)
  || (match t, tg with
    | .at o f, .Attribute x g _ => decide (g = Str.ofString f) && asc f && !swpB sc e tg && okE P N sc asg cm o x && okE P N sc asg cm z e
    | _, _ => false)
  || (match t, z, tg, e with
    | .tp [.nm i, .nm j], .tup [a, b], .Tuple [.Name x _, .Name y _] _ _, .Tuple [u, v] _ _ =>
      cm && decide (stB sc tg e = some (some [x, y])) && decide (N[i]? = some x) && decide (N[j]? = some y) && decide (i ≠ j) && locB sc x && locB sc y && okEs P N sc asg cm [a, b] [u, v]
    | .tp [.nm i, .nm j, .nm l], .tup [a, b, d], .Tuple [.Name x _, .Name y _, .Name w _] _ _, .Tuple [u, v, q] _ _ =>
      cm && decide (stB sc tg e = some (some [x, y, w])) && decide (N[i]? = some x) && decide (N[j]? = some y) && decide (N[l]? = some w) && decide (i ≠ j) && decide (i ≠ l) && decide (j ≠ l) && locB sc x && locB sc y && locB sc w && okEs P N sc asg cm [a, b, d] [u, v, q]
    | _, _, _, _ => false)
  || (match t, tg with
    | .nm i, .Name y _ => cm && isCz z && swpB sc e tg && decide (N[i]? = some y) && locB sc y && okE P N sc asg cm z e
    | _, _ => false)
def okRs (sc : Scope) (cm : Bool) (k : String) : Stmt → Bool
  | .Raise (some (.Call (.Name x _) [.Constant (.str _) _ _] [] _)) none _ => cm && decide (x = Str.ofString k) && glB sc x && (match P.xs.lookup k with
    | some (_, []) => true
    | _ => false)
  | _ => false
def isWal : S → Bool
  | .wal => true
  | _ => false
mutual
def okS (sc : Scope) (asg : Str → Bool) (cm : Bool) : S → Stmt → Bool
  | .wal, _ => true
  | .pass, s₀ => match s₀ with
    | .Pass _ => true
    | _ => false
  | .brk, s₀ => match s₀ with
    | .Break _ => true
    | _ => false
  | .cnt, s₀ => match s₀ with
    | .Continue _ => true
    | _ => false
  | .exp z, s₀ => match s₀ with
    | .Expr e _ => noCm e && okE P N sc asg cm z e
    | _ => false
  | .asg t z, s₀ => match s₀ with
    | .Assign [tg] e _ => asgB P N sc asg cm t z tg e
    | _ => false
  | .aug i op z, s₀ => match s₀ with
    | .AugAssign (.Name x _) op' e _ => decide (N[i]? = some x) && setB sc asg x && decide (op = op') && okE P N sc asg cm z e
    | _ => false
  | .augS o i op z, s₀ => match s₀ with
    | .AugAssign (.Subscript x y _) op' e _ => noSl y && decide (op = op') && okE P N sc asg cm o x && okE P N sc asg cm i y && okE P N sc asg cm z e
    | _ => false
  | .ret fz z, s₀ => match s₀ with
    | .Return (some e) _ => okE P N sc asg cm z e
    | _ => false
  | .ifs t a b, s₀ => match s₀ with
    | .If c x y _ => okP P N sc asg cm t c && okSs sc asg cm a x && okSs sc asg cm b y
    | _ => false
  | .whl t b, s₀ => match s₀ with
    | .While c x [] _ => cm && okP P N sc asg cm t c && okSs sc asg cm b x
    | _ => false
  | .for t it b, s₀ => match s₀ with
    | .For tg iter x [] _ => cm && noSet iter && okI P N sc asg cm it iter tg && okT P N sc asg cm t tg && okSs sc asg cm b x
    | _ => false
  | .rais k es, s₀ => es.isEmpty && okRs P sc cm k s₀
  | _, _ => false
def okSs (sc : Scope) (asg : Str → Bool) (cm : Bool) : List S → List Stmt → Bool
  | [], l => l.isEmpty
  | s :: ss, l => isWal s || (match l with
    | st :: sts => okS sc asg cm s st && okSs sc asg cm ss sts
    | [] => false)
end
end
section
variable {P : ZP} {N : List Str} {Γ : Gl0} {fa : String → Addr} {n base : Nat}
theorem ps_ev {X : Cx} {W : WX} {e : Stmt} {f g : Ev → MH → RS} (p : PS X e (tSZ Γ base W f)) (h : ∀ ρ m, g ρ m = f ρ m) : PS X e (tSZ Γ base W g) := by
  have : g = f := by funext ρ m; exact h ρ m
  rw [this]; exact p
theorem pss_ev {X : Cx} {W : WX} {e : List Stmt} {f g : Ev → MH → RS} (p : PSs X e (tSZ Γ base W f)) (h : ∀ ρ m, g ρ m = f ρ m) : PSs X e (tSZ Γ base W g) := by
  have : g = f := by funext ρ m; exact h ρ m
  rw [this]; exact p
theorem ex_par {c : EC} {i j : Nat} {a b : Z} {ρ : Ev} {m : MH} : ex c (.asg (.tp [.nm i, .nm j]) (.tup [a, b])) ρ m = (evs c [a, b] ρ m).st ρ fun ds m => match ds with
      | [u, v] => .ok (.nx ((ρ.set i (some u)).set j (some v))) m
      | _ => .bad := by
  rw [ex, ev]
  simp only [evs]
  cases ev c a ρ m with
  | ok x m1 =>
    simp only [R.bind_ok]
    cases ev c b ρ m1 with
    | ok y m2 =>
      simp only [R.bind_ok, R.st_ok]
      have : mkT [x, y] m2 = .ok (.tup [x, y]) m2 := if_pos (show _ ≤ 16777216 by simp only [List.length_cons, List.length_nil]; omega)
      rw [this]
      simp only [R.st_ok, asgT, asgTs, R.bind_ok, R.nox_ok]
      rfl
    | exc k fs m2 => rfl
    | bad => rfl
  | exc k fs m1 => rfl
  | bad => rfl
theorem ex_par3 {c : EC} {i j l : Nat} {a b d : Z} {ρ : Ev} {m : MH} : ex c (.asg (.tp [.nm i, .nm j, .nm l]) (.tup [a, b, d])) ρ m = (evs c [a, b, d] ρ m).st ρ fun ds m => match ds with
      | [u, v, w] => .ok (.nx (((ρ.set i (some u)).set j (some v)).set l (some w))) m
      | _ => .bad := by
  rw [ex, ev]
  simp only [evs]
  cases ev c a ρ m with
  | ok x m1 =>
    simp only [R.bind_ok]
    cases ev c b ρ m1 with
    | ok y m2 =>
      simp only [R.bind_ok, R.st_ok]
      cases ev c d ρ m2 with
      | ok z m3 =>
        simp only [R.bind_ok, R.st_ok]
        have : mkT [x, y, z] m3 = .ok (.tup [x, y, z]) m3 := if_pos (show _ ≤ 16777216 by simp only [List.length_cons, List.length_nil]; omega)
        rw [this]
        simp only [R.st_ok, asgT, asgTs, R.bind_ok, R.nox_ok]
        rfl
      | exc k fs m3 => rfl
      | bad => rfl
    | exc k fs m2 => rfl
    | bad => rfl
  | exc k fs m1 => rfl
  | bad => rfl
theorem loc_ok {sc : Scope} {x : Str} (h : locB sc x = true) : sc.names.lookup x = some .local := of_decide_eq_true h
theorem isWal_eq {s : S} (h : isWal s = true) : s = .wal := by cases s <;> first | rfl | cases h
theorem wal_ps {X : Cx} {W : WX} {st : Stmt} {c : EC} : PS X st (tSZ Γ base W (ex c .wal)) := ⟨fun pins s σ H D I ⟨bs, G, ι, F, ρ, m, sr, hr, h⟩ => by rw [ex] at h; exact h.elim⟩
theorem asg_ok {X : Cx} {sc : Scope} {asg : Str → Bool} {cm : Bool} {t : T} {z : Z} {tg e : Expr} {pos : Pos} {W : WX} (h : asgB P N sc asg cm t z tg e = true) (g : GoodX Γ P fa n N sc asg cm X) (tk : Takes X W) : PS X (.Assign [tg] e pos) (tSZ Γ base W (ex (ecOf P base (callF P n)) (.asg t z))) := by
  unfold asgB at h
  rw [Bool.or_eq_true, Bool.or_eq_true, Bool.or_eq_true] at h
  rcases h with ((h | h) | h) | h
  · simp only [Bool.and_eq_true] at h
    obtain ⟨⟨⟨⟨h1, h2⟩, h3⟩, h4⟩, h5⟩ := h
    have h2 := of_decide_eq_true h2
    have h3' : swpB sc e tg = false := by simpa using h3
    refine ps_ev (s_asg (okE_ok z h4 g tk) (okT_ok t h5 g tk) ?_ (st_ok g.scp tg e h2) h1) fun ρ m => by rw [ex]
    show swapsWith e (some tg) pos.line X.env = _
    rw [swp_ok g.scp, h3']
  · split at h
    · rename_i o f x gg p2
      simp only [Bool.and_eq_true] at h
      obtain ⟨⟨⟨⟨h1, h2⟩, h3⟩, h4⟩, h5⟩ := h
      cases of_decide_eq_true h1
      have h3' : swpB sc e (.Attribute x (Str.ofString f) p2) = false := by simpa using h3
      refine ps_ev (s_fld (call := callF P n) (b0 := base) g (okE_ok o h4 g tk) (okE_ok z h5 g tk) ?_ h2) fun ρ m => ?_
      · rw [swp_ok g.scp, h3']
      · rw [ex]
        congr 1
    · cases h
  · split at h
    · simp only [Bool.and_eq_true] at h
      obtain ⟨⟨⟨⟨⟨⟨⟨h1, h2⟩, h3⟩, h4⟩, h5⟩, h6⟩, h7⟩, h8⟩ := h
      cases h1
      exact ps_ev (s_par g (of_decide_eq_true h3) (of_decide_eq_true h4) (of_decide_eq_true h5) (loc_ok h6) (loc_ok h7) (okEs_ok _ h8 g tk).1 (st_ok g.scp _ _ (of_decide_eq_true h2))) fun ρ m => ex_par
    · simp only [Bool.and_eq_true] at h
      obtain ⟨⟨⟨⟨⟨⟨⟨⟨⟨⟨⟨h1, h2⟩, h3⟩, h4⟩, h5⟩, h6⟩, h7⟩, h8⟩, h9⟩, h10⟩, h11⟩, h12⟩ := h
      cases h1
      exact ps_ev (s_par3 g (of_decide_eq_true h3) (of_decide_eq_true h4) (of_decide_eq_true h5) (of_decide_eq_true h6) (of_decide_eq_true h7) (of_decide_eq_true h8) (loc_ok h9) (loc_ok h10) (loc_ok h11) (okEs_ok _ h12 g tk).1 (st_ok g.scp _ _ (of_decide_eq_true h2))) fun ρ m => ex_par3
    · cases h
  · split at h
    · rename_i i y py
      simp only [Bool.and_eq_true] at h
      obtain ⟨⟨⟨⟨⟨h1, h2⟩, h3⟩, h4⟩, h5⟩, h6⟩ := h
      cases h1
      have h4 := of_decide_eq_true h4
      have h5 := loc_ok h5
      have sw : ∀ line, swapsWith e (some (.Name y py)) line X.env = Pure.pure true := fun line => by rw [swp_ok g.scp, h3]
      cases z with
      | lc fz own ex1 c =>
        obtain ⟨t', it, ifs⟩ := c
        rw [okE_def] at h6; dsimp only at h6
        split at h6
        · simp only [Bool.and_eq_true] at h6
          obtain ⟨⟨⟨⟨⟨⟨⟨k1, k2⟩, k3⟩, k4⟩, k5⟩, k6⟩, k7⟩, k8⟩ := h6
          have ho := of_decide_eq_true k3
          refine ps_ev (s_setLc (fz := fz) (gt := fun d ρ m => asgT (ecOf P base (callF P n)) t' d ρ m) (tt := evTs (ecOf P base (callF P n)) ifs) (f := ev (ecOf P base (callF P n)) ex1) g h4 h5 (sw _) (okI_ok it k6 g tk) k2
            (fun s H C cl fp => by rw [ho]; exact okTw_ok (g.blk s H _ C cl fp) t' _ k5)
            (fun s H C cl fp => okPs_ok ifs k7 (g.blk s H _ C cl fp) takes_no)
            (fun s H C cl fp => okE_ok ex1 k8 (g.blk s H _ C cl fp) takes_no) k4) fun ρ m => ?_
          rw [ex, ev, ho]
          simp only [asgT, R.st_ok]
          rfl
        · cases h6
      | dc fz kt own ke ex1 c =>
        obtain ⟨t', it, ifs⟩ := c
        rw [okE_def] at h6; dsimp only at h6
        split at h6
        · simp only [Bool.and_eq_true] at h6
          obtain ⟨⟨⟨⟨⟨⟨⟨⟨k1, k2⟩, k3⟩, k4⟩, k5⟩, k6⟩, k7⟩, k8⟩, k9⟩ := h6
          have ho := of_decide_eq_true k3
          refine ps_ev (s_setDc (fz := fz) (t := kt) (gt := fun d ρ m => asgT (ecOf P base (callF P n)) t' d ρ m) (tt := evTs (ecOf P base (callF P n)) ifs) (fk := ev (ecOf P base (callF P n)) ke) (fv := ev (ecOf P base (callF P n)) ex1) g h4 h5 (sw _) (okI_ok it k6 g tk) k2
            (fun s H C cl fp => by rw [ho]; exact okTw_ok (g.blk s H _ C cl fp) t' _ k5)
            (fun s H C cl fp => okPs_ok ifs k7 (g.blk s H _ C cl fp) takes_no)
            (fun s H C cl fp => okE_ok ke k8 (g.blk s H _ C cl fp) takes_no)
            (fun s H C cl fp => okE_ok ex1 k9 (g.blk s H _ C cl fp) takes_no) k4) fun ρ m => ?_
          rw [ex, ev, ho]
          simp only [asgT, R.st_ok]
          rfl
        · cases h6
      | _ => cases h2
    · cases h
end
end Zi
set_option maxHeartbeats 16000000
/-! Z9i: statements: the checker is sound. -/
namespace Zi
open PySem PySem.Spec PyProof.Rows L2
section
variable {P : ZP} {N : List Str} {Γ : Gl0} {fa : String → Addr} {n base : Nat}
theorem rs_ok {X : Cx} {sc : Scope} {asg : Str → Bool} {cm : Bool} {k : String} {st : Stmt} {W : WX} (h : okRs P sc cm k st = true) (g : GoodX Γ P fa n N sc asg cm X) (tk : Takes X W) : PS X st (tSZ Γ base W fun ρ m => .exc k [] ρ m) := by
  unfold okRs at h
  split at h
  · simp only [Bool.and_eq_true] at h
    obtain ⟨⟨⟨h1, h2⟩, h3⟩, h4⟩ := h
    cases h1
    cases of_decide_eq_true h2
    obtain ⟨k1, k2⟩ := gl_ok h3
    split at h4
    · rename_i bs e
      exact s_rais0 g tk e k1 k2
    · cases h4
  · cases h
theorem ex_rais {c : EC} {k : String} {ρ : Ev} {m : MH} {bs : List String} (h : c.xfs k = some []) : ex c (.rais k []) ρ m = .exc k [] ρ m := by
  rw [ex, evs]
  simp only [R.st_ok, h]
  rfl
mutual
theorem okS_ok : ∀ (st : S) {X : Cx} {sc : Scope} {asg : Str → Bool} {cm : Bool} {e : Stmt} {W : WX}, okS P N sc asg cm st e = true → GoodX Γ P fa n N sc asg cm X → PassesOwn (model X.prog X.w) X.A X.env X.xe → Takes X W → PS X e (tSZ Γ base W (ex (ecOf P base (callF P n)) st))
  | .wal, X, sc, asg, cm, e, W, h, g, hp, tk => wal_ps
  | .pass, X, sc, asg, cm, e, W, h, g, hp, tk => by
    rw [okS.eq_def] at h; dsimp only at h
    split at h
    · exact ps_ev s_pass fun ρ m => by rw [ex]
    · cases h
  | .brk, X, sc, asg, cm, e, W, h, g, hp, tk => by
    rw [okS.eq_def] at h; dsimp only at h
    split at h
    · exact ps_ev s_brk fun ρ m => by rw [ex]
    · cases h
  | .cnt, X, sc, asg, cm, e, W, h, g, hp, tk => by
    rw [okS.eq_def] at h; dsimp only at h
    split at h
    · exact ps_ev s_cnt fun ρ m => by rw [ex]
    · cases h
  | .exp z, X, sc, asg, cm, e, W, h, g, hp, tk => by
    rw [okS.eq_def] at h; dsimp only at h
    split at h
    · rw [Bool.and_eq_true] at h
      exact ps_ev (s_exp (okE_ok z h.2 g tk) (swn_ok h.1 _)) fun ρ m => by rw [ex]
    · cases h
  | .asg t z, X, sc, asg, cm, e, W, h, g, hp, tk => by
    rw [okS.eq_def] at h; dsimp only at h
    split at h
    · exact asg_ok h g tk
    · cases h
  | .aug i op z, X, sc, asg, cm, e, W, h, g, hp, tk => by
    rw [okS.eq_def] at h; dsimp only at h
    split at h
    · simp only [Bool.and_eq_true] at h
      obtain ⟨⟨⟨h1, h2⟩, h3⟩, h4⟩ := h
      cases of_decide_eq_true h3
      exact ps_ev (s_aug g (of_decide_eq_true h1) (set_ok h2) (okE_ok z h4 g tk)) fun ρ m => by rw [ex] <;> rfl
    · cases h
  | .augS o i op z, X, sc, asg, cm, e, W, h, g, hp, tk => by
    rw [okS.eq_def] at h; dsimp only at h
    split at h
    · simp only [Bool.and_eq_true] at h
      obtain ⟨⟨⟨⟨h1, h2⟩, h3⟩, h4⟩, h5⟩ := h
      cases of_decide_eq_true h2
      exact ps_ev (s_augS g (okE_ok o h3 g tk) (okE_ok i h4 g tk) (okE_ok z h5 g tk) h1) fun ρ m => by rw [ex] <;> rfl
    · cases h
  | .augA _ _ _ _, X, sc, asg, cm, e, W, h, g, hp, tk => by rw [okS.eq_def] at h; cases h
  | .ret fz z, X, sc, asg, cm, e, W, h, g, hp, tk => by
    rw [okS.eq_def] at h; dsimp only at h
    split at h
    · exact ps_ev (s_ret (fz := fz) (okE_ok z h g tk)) fun ρ m => by rw [ex] <;> rfl
    · cases h
  | .ifs t a b, X, sc, asg, cm, e, W, h, g, hp, tk => by
    rw [okS.eq_def] at h; dsimp only at h
    split at h
    · simp only [Bool.and_eq_true] at h
      obtain ⟨⟨h1, h2⟩, h3⟩ := h
      refine ps_ev (s_if (okP_ok t h1 g tk).1 (okSs_ok a h2 g hp tk) (okSs_ok b h3 g hp tk)) fun ρ m => ?_
      rw [ex]
      unfold tst
      rw [st_bind]
    · cases h
  | .whl t b, X, sc, asg, cm, e, W, h, g, hp, tk => by
    rw [okS.eq_def] at h; dsimp only at h
    split at h
    · simp only [Bool.and_eq_true] at h
      obtain ⟨⟨h1, h2⟩, h3⟩ := h
      exact ps_ev (s_whl (lim := P.lim) hp (okP_ok t h2 g tk).1 (okSs_ok b h3 g hp tk)) fun ρ m => by rw [ex] <;> rfl
    · cases h
  | .for t it b, X, sc, asg, cm, e, W, h, g, hp, tk => by
    rw [okS.eq_def] at h; dsimp only at h
    split at h
    · simp only [Bool.and_eq_true] at h
      obtain ⟨⟨⟨⟨h1, h2⟩, h3⟩, h4⟩, h5⟩ := h
      cases h1
      exact ps_ev (s_for g hp (okI_ok it h3 g tk) (okT_ok t h4 g tk) (okSs_ok b h5 g hp tk) h2) fun ρ m => by rw [ex]
    · cases h
  | .rais k es, X, sc, asg, cm, e, W, h, g, hp, tk => by
    rw [okS.eq_def] at h; dsimp only at h
    rw [Bool.and_eq_true] at h
    cases List.isEmpty_iff.mp h.1
    refine ps_ev (rs_ok h.2 g tk) fun ρ m => ?_
    have hx : ∃ bs, P.xs.lookup k = some (bs, []) := by
      have h2 := h.2
      unfold okRs at h2
      split at h2
      · simp only [Bool.and_eq_true] at h2
        have h4 := h2.2
        split at h4
        · rename_i bs e; exact ⟨bs, e⟩
        · cases h4
      · cases h2
    obtain ⟨bs, hx⟩ := hx
    refine ex_rais (bs := bs) ?_
    show (P.xs.lookup k).map (·.2) = some []
    rw [hx]; rfl
  | .try _ _, X, sc, asg, cm, e, W, h, g, hp, tk => by rw [okS.eq_def] at h; cases h
  | .frz _, X, sc, asg, cm, e, W, h, g, hp, tk => by rw [okS.eq_def] at h; cases h
theorem okSs_ok : ∀ (ss : List S) {X : Cx} {sc : Scope} {asg : Str → Bool} {cm : Bool} {es : List Stmt} {W : WX}, okSs P N sc asg cm ss es = true → GoodX Γ P fa n N sc asg cm X → PassesOwn (model X.prog X.w) X.A X.env X.xe → Takes X W → PSs X es (tSZ Γ base W (exs (ecOf P base (callF P n)) ss))
  | [], X, sc, asg, cm, es, W, h, g, hp, tk => by
    rw [okSs.eq_def] at h; dsimp only at h
    cases List.isEmpty_iff.mp h
    exact pss_ev ss_nil fun ρ m => by rw [exs]
  | s :: ss, X, sc, asg, cm, es, W, h, g, hp, tk => by
    rw [okSs.eq_def] at h; dsimp only at h
    rw [Bool.or_eq_true] at h
    rcases h with h | h
    · cases isWal_eq h
      exact ⟨fun pins s σ H D I ⟨bs, G, ι, F, ρ, m, sr, hr, h⟩ => by rw [exs, ex] at h; exact h.elim⟩
    · cases es with
      | nil => cases h
      | cons st sts =>
        dsimp only at h
        rw [Bool.and_eq_true] at h
        exact pss_ev (ss_cons (okS_ok s h.1 g hp tk) (okSs_ok ss h.2 g hp tk)) fun ρ m => by rw [exs] <;> rfl
end
end
end Zi
set_option maxHeartbeats 4000000
/-! Z10a: binding of plain parameters; bodies without a return. -/
namespace Zi
open PySem PySem.Spec PyProof.Rows L2
def nodB : List Str → Bool
  | [] => true
  | x :: r => !r.contains x && nodB r
theorem nodB_ok : ∀ {l : List Str}, nodB l = true → l.Nodup
  | [], _ => .nil
  | x :: r, h => by
    have h' : (!r.contains x && nodB r) = true := h
    rw [Bool.and_eq_true] at h'
    refine List.nodup_cons.mpr ⟨fun hx => ?_, nodB_ok h'.2⟩
    have : r.contains x = true := List.contains_iff_mem.mpr hx
    rw [this] at h'; cases h'.1
def plainPs (p : Arguments) (ps : List Str) : Bool := p.posonlyargs.isEmpty && decide (p.args.map (·.arg) = ps) && p.vararg.isNone && p.kwonlyargs.isEmpty && p.kwarg.isNone && nodB ps
theorem zip_look : ∀ {ps : List Str} {us : List Value}, us.length = ps.length → ∀ x ∈ ps, ((ps.zip us).lookup x).isSome = true
  | [], _, _, x, hx => nomatch hx
  | p :: ps, [], h, _, _ => nomatch h
  | p :: ps, u :: us, h, x, hx => by
    rw [List.zip_cons_cons, List.lookup_cons]
    cases e : (x == p) with
    | true => rfl
    | false =>
      rcases List.mem_cons.mp hx with rfl | hx
      · simp at e
      · exact zip_look (Nat.succ.inj h) x hx
theorem zip_back : ∀ {ps : List Str} {us : List Value}, ps.Nodup → us.length = ps.length → ∀ (l : List (Str × Value)), (∀ x ∈ ps, ∀ v, (x, v) ∉ l) → (ps.filterMap fun n => ((l ++ ps.zip us).lookup n).map fun v => (n, v)) = ps.zip us
  | [], _, _, _, _, _ => rfl
  | p :: ps, [], _, h, _, _ => nomatch h
  | p :: ps, u :: us, nd, h, l, hl => by
    obtain ⟨n1, n2⟩ := List.nodup_cons.mp nd
    have hp : l.lookup p = none := by
      cases e : l.lookup p with
      | none => rfl
      | some v =>
        have : (p, v) ∈ l := by
          clear h nd n1 n2 hl
          induction l with
          | nil => cases e
          | cons q r ih =>
            obtain ⟨a, b⟩ := q
            rw [List.lookup_cons] at e
            cases e2 : (p == a) with
            | true =>
              rw [e2] at e
              cases e
              rw [eq_of_beq e2]
              exact List.mem_cons_self
            | false =>
              rw [e2] at e
              exact List.mem_cons_of_mem _ (ih e)
        exact (hl p List.mem_cons_self v this).elim
    have e1 : ((l ++ (p, u) :: ps.zip us).lookup p) = some u := by
      rw [List.lookup_append, hp]
      rw [List.lookup_cons]
      simp
    rw [List.zip_cons_cons, List.filterMap_cons, e1]
    show (p, u) :: _ = _
    congr 1
    have := zip_back n2 (Nat.succ.inj h) (l ++ [(p, u)]) fun x hx v hm => by
      rcases List.mem_append.mp hm with hm | hm
      · exact hl x (List.mem_cons_of_mem _ hx) v hm
      · have := List.mem_singleton.mp hm
        cases this
        exact n1 hx
    rw [List.append_assoc] at this
    exact this
theorem bind_plain {x qual : Str} {params : Arguments} {body : List Stmt} {scope : Scope} {ps : List Str} (h : plainPs params ps = true) (kV doc pm : Value) (an : Option Addr) (cdv ct : Value) (us : List Value) (hl : us.length = ps.length) :
    bindArgs (PySem.W.fnOf x qual params body scope .none kV doc pm an cdv ct) ⟨us, []⟩ = Pure.pure (ps.zip us) := by
  obtain ⟨po, as, va, ko, kd, kw, df⟩ := params
  unfold plainPs at h
  simp only [Bool.and_eq_true, decide_eq_true_eq, List.isEmpty_iff, Option.isNone_iff_eq_none] at h
  obtain ⟨⟨⟨⟨⟨h1, h2⟩, h3⟩, h4⟩, h5⟩, h6⟩ := h
  subst h1 h3 h4 h5
  have nd := nodB_ok h6
  unfold bindArgs PySem.W.fnOf
  simp only [List.map_nil, List.nil_append, h2, List.append_nil]
  have hm : (ps.filter fun n => ((ps.zip us).lookup n).isNone) = [] := by
    rw [List.filter_eq_nil_iff]
    intro a ha
    have := zip_look hl a ha
    simp [Option.isSome_iff_ne_none] at this ⊢
    exact this
  have hb := zip_back nd hl [] (fun _ _ _ hm => nomatch hm)
  rw [List.nil_append] at hb
  simp only [List.length_nil, Nat.zero_sub, Nat.sub_zero, List.drop_nil, List.take_length, hl, Nat.lt_irrefl, false_and, if_false, hm, hb, seqItems?, notAStandIn, List.forIn_nil, Option.isNone_none, Bool.and_true, decide_false, List.drop_length, List.zip_nil_right, List.isEmpty_nil, Bool.not_true, pure_bind, Option.getD_none, List.take_of_length_le (Nat.le_refl _), gt_iff_lt, Bool.false_eq_true]

/-! ### bodies without a return -/
mutual
def noRt : S → Bool
  | .ret _ _ => false
  | .ifs _ a b => noRts a && noRts b
  | .whl _ b => noRts b
  | .for _ _ b => noRts b
  | .try _ _ => false
  | _ => true
def noRts : List S → Bool
  | [] => true
  | s :: r => noRt s && noRts r
end
def notRt : RS → Prop
  | .ok (.rt _) _ => False
  | _ => True
theorem notRt_st {α : Type} {r : R α} {ρ : Ev} {k : α → MH → RS} (h : ∀ a m, notRt (k a m)) : notRt (r.st ρ k) := by
  cases r with
  | ok a m => exact h a m
  | exc c fs m => exact True.intro
  | bad => exact True.intro
theorem notRt_for {same : MH → Bool} {turn : D → Ev → MH → RS} (h : ∀ d ρ m, notRt (turn d ρ m)) : ∀ (ds : List D) (ρ : Ev) (m : MH), notRt (forL same turn ds ρ m)
  | [], ρ, m => by unfold forL; split <;> exact True.intro
  | d :: ds, ρ, m => by
    unfold forL
    split
    · have := h d ρ m
      cases e : turn d ρ m with
      | ok fl m' => cases fl with
        | nx ρ' => exact notRt_for h ds ρ' m'
        | ct ρ' => exact notRt_for h ds ρ' m'
        | bk ρ' => exact True.intro
        | rt v => rw [e] at this; exact this.elim
      | exc c fs ρ' m' => exact True.intro
      | bad => exact True.intro
    · exact True.intro
theorem notRt_whl {c : Ev → MH → R Bool} {b : Ev → MH → RS} (h : ∀ ρ m, notRt (b ρ m)) : ∀ (n : Nat) (ρ : Ev) (m : MH), notRt (whileL n c b ρ m)
  | 0, ρ, m => by unfold whileL; exact True.intro
  | n + 1, ρ, m => by
    unfold whileL
    refine notRt_st fun k m1 => ?_
    split
    · have := h ρ m1
      cases e : b ρ m1 with
      | ok fl m' => cases fl with
        | nx ρ' => exact notRt_whl h n ρ' m'
        | ct ρ' => exact notRt_whl h n ρ' m'
        | bk ρ' => exact True.intro
        | rt v => rw [e] at this; exact this.elim
      | exc c fs ρ' m' => exact True.intro
      | bad => exact True.intro
    · exact True.intro
mutual
theorem noRt_ok (c : EC) : ∀ (s : S) (ρ : Ev) (m : MH), noRt s = true → notRt (ex c s ρ m)
  | .ret _ _, ρ, m, h => by cases h
  | .try _ _, ρ, m, h => by cases h
  | .wal, ρ, m, h => by rw [ex]; exact True.intro
  | .pass, ρ, m, h => by rw [ex]; exact True.intro
  | .brk, ρ, m, h => by rw [ex]; exact True.intro
  | .cnt, ρ, m, h => by rw [ex]; exact True.intro
  | .exp e, ρ, m, h => by rw [ex]; exact notRt_st fun _ _ => True.intro
  | .asg t e, ρ, m, h => by rw [ex]; exact notRt_st fun _ _ => notRt_st fun _ _ => True.intro
  | .aug i op e, ρ, m, h => by rw [ex]; exact notRt_st fun _ _ => notRt_st fun _ _ => notRt_st fun _ _ => True.intro
  | .augS o i op e, ρ, m, h => by rw [ex]; exact notRt_st fun _ _ => notRt_st fun _ _ => notRt_st fun _ _ => notRt_st fun _ _ => notRt_st fun _ _ => notRt_st fun _ _ => True.intro
  | .augA o f op e, ρ, m, h => by
    rw [ex]
    refine notRt_st fun x m1 => ?_
    split
    · split
      · refine notRt_st fun _ _ => notRt_st fun _ _ => notRt_st fun _ m2 => ?_
        split
        · split
          · exact notRt_st fun _ _ => True.intro
          · exact True.intro
        · exact True.intro
      · exact True.intro
    · exact True.intro
  | .ifs t a b, ρ, m, h => by
    have h' : (noRts a && noRts b) = true := h
    rw [Bool.and_eq_true] at h'
    rw [ex]
    refine notRt_st fun _ _ => notRt_st fun k m1 => ?_
    split
    · exact noRts_ok c a ρ m1 h'.1
    · exact noRts_ok c b ρ m1 h'.2
  | .whl t b, ρ, m, h => by rw [ex]; exact notRt_whl (fun ρ m => noRts_ok c b ρ m h) _ _ _
  | .for t it b, ρ, m, h => by rw [ex]; exact notRt_st fun _ _ => notRt_for (fun d ρ m => notRt_st fun ρ m => noRts_ok c b ρ m h) _ _ _
  | .rais k es, ρ, m, h => by
    rw [ex]
    refine notRt_st fun _ _ => ?_
    split
    · split <;> exact True.intro
    · exact True.intro
  | .frz i, ρ, m, h => by
    rw [ex]
    split
    · split
      · split <;> exact True.intro
      · exact True.intro
    · exact True.intro
theorem noRts_ok (c : EC) : ∀ (ss : List S) (ρ : Ev) (m : MH), noRts ss = true → notRt (exs c ss ρ m)
  | [], ρ, m, h => by rw [exs]; exact True.intro
  | s :: ss, ρ, m, h => by
    have h' : (noRt s && noRts ss) = true := h
    rw [Bool.and_eq_true] at h'
    have h1 := noRt_ok c s ρ m h'.1
    rw [exs]
    cases e : ex c s ρ m with
    | ok fl m' => cases fl with
      | nx ρ' => exact noRts_ok c ss ρ' m' h'.2
      | ct ρ' => exact True.intro
      | bk ρ' => exact True.intro
      | rt v => rw [e] at h1; exact h1.elim
    | exc c fs ρ' m' => exact True.intro
    | bad => exact True.intro
end
end Zi
set_option maxHeartbeats 4000000
/-! Z10b: all defs of a program do what the evaluator says. -/
namespace Zi
open PySem PySem.Spec PyProof.Rows L2
/-- one def's checks -/
structure DefZ where
  d : He.DefD
  N : List Str
  ps : List Str
def scopeB (N ps : List Str) (sc : Scope) : Bool := decide (sc.kind = .function) && !sc.isCoroutine && !sc.isGenerator && nodB N && decide (N.take ps.length = ps) && (ps.all fun x => (match sc.names.lookup x with
  | some .local => true
  | some .cell => true
  | _ => false)) && sc.names.all fun y => (match y.2 with
  | .free => false
  | _ => true)
theorem scopeB_ok {N ps : List Str} {sc : Scope} (h : scopeB N ps sc = true) : FnScope N ps sc := by
  unfold scopeB at h
  simp only [Bool.and_eq_true, decide_eq_true_eq, Bool.not_eq_true'] at h
  obtain ⟨⟨⟨⟨⟨⟨h1, h2⟩, h3⟩, h4⟩, h5⟩, h6⟩, h7⟩ := h
  refine ⟨h1, h2, h3, nodB_ok h4, h5, fun x hx => ?_, fun y hy e => ?_⟩
  · have := List.all_eq_true.mp h6 x hx
    split at this
    · rename_i q; exact .inl q
    · rename_i q; exact .inr q
    · cases this
  · have := List.all_eq_true.mp h7 y hy
    rw [e] at this
    cases this
def dbgB (N : List Str) : Bool := N.all fun x => !(x == ("__debug__" : Str)) && !(x == ("__classdict__" : Str))
def fnB (P : ZP) (f : String) (zf : ZFun) (z : DefZ) : Bool :=
  scopeB z.N z.ps z.d.scope && dbgB z.N && plainPs z.d.params z.ps && decide (zf.np = z.ps.length) && decide (zf.ns = z.N.length) && zf.dfl.isEmpty && !zf.star && z.d.dfl.isEmpty && decide (z.ps.length ≤ z.N.length) && (!P.ini.contains f || noRts zf.body) && okSs P z.N z.d.scope (fun _ => true) true zf.body z.d.body
/-- what a body hands back -/
def bodyR (r : RS) : R D := match r with
  | .ok (.rt d) m' => .ok d m'
  | .ok (.nx _) m' => .ok .non m'
  | .exc c fs _ m' => .exc c fs m'
  | _ => .bad
theorem callF_succ {P : ZP} {n base : Nat} {f : String} {xs : List D} {m : MH} {zf : ZFun} (h : P.funs.lookup f = some zf) (h1 : zf.dfl = []) (h2 : zf.star = false) (hl : xs.length = zf.np) :
    callF P (n + 1) base f xs m = bodyR (exs (ecOf P base (callF P n)) zf.body (xs.map some ++ List.replicate (zf.ns - xs.length) none) m) := by
  have hb : bindA zf xs = some xs := by
    unfold bindA
    rw [if_pos (by omega), if_pos (by rw [h1]; simp; omega), h1, h2]
    simp
  rw [callF, h]
  simp only
  rw [hb]
  simp only
  unfold bodyR
  rfl
theorem callF_args {P : ZP} {n base : Nat} {f : String} {xs : List D} {m : MH} {zf : ZFun} (h : P.funs.lookup f = some zf) (h1 : zf.dfl = []) (h2 : zf.star = false) (hl : xs.length ≠ zf.np) : callF P (n + 1) base f xs m = .bad := by
  have hb : bindA zf xs = none := by
    unfold bindA
    by_cases c : xs.length ≤ zf.np
    · rw [if_pos c, if_neg (by rw [h1]; simp; omega)]
    · rw [if_neg c, h2]; rfl
  rw [callF, h]
  simp only
  rw [hb]
/-- the slots at a body's start -/
theorem start_sr {Γ : Gl0} {ι : List Addr} {F : Hp} {ds : List D} {vs : List V} {N : List Str} (x : Dens Γ ι F ds vs) : SR Γ ι F (ds.map some ++ List.replicate (N.length - ds.length) none) (L2.start N vs) where
  len := by
    unfold L2.start
    rw [List.length_append, List.length_append, List.length_map, List.length_map, List.length_replicate, List.length_replicate, x.length]
  at_ := fun i d q => by
    unfold L2.start
    by_cases hi : i < ds.length
    · rw [List.getElem?_append_left (by rw [List.length_map]; exact hi), List.getElem?_map] at q
      obtain ⟨d', e1, e2⟩ := Option.map_eq_some_iff.mp q
      cases e2
      obtain ⟨v, h1, h2⟩ := x.get e1
      refine ⟨v, ?_, h2⟩
      rw [List.getElem?_append_left (by rw [List.length_map, ← x.length]; exact hi), List.getElem?_map, h1]
      rfl
    · rw [List.getElem?_append_right (by rw [List.length_map]; omega)] at q
      have := List.getElem?_eq_some_iff.mp q
      obtain ⟨hk, e⟩ := this
      rw [List.getElem_replicate] at e
      cases e
section
variable {prog : Program} {w : World} {K : PySem.W.Frag} {mg : Str → Option Value} {base : Heap} {ca : String → Addr} {P : ZP} {fa : String → Addr}
/-- what must stand for each def -/
def DefOk (K : PySem.W.Frag) (P : ZP) (fa : String → Addr) (f : String) (zf : ZFun) : Prop := ∃ (z : DefZ) (fd : FuncData), FunD K z.d.name z.d.qual z.d.params z.d.body z.d.scope [] (z.d.kws K) (fa f) fd ∧ fnB P f zf z = true
def spB (Γ : Gl0) (P : ZP) (n : Nat) (f : String) (zf : ZFun) (z : DefZ) : Sp := fun vs H Q E => ∃ b bs G ι F m ds, HR Γ b (b :: bs) G ι F m H ∧ Dens Γ ι F ds vs ∧ ds.length = z.ps.length ∧ (m.length ≤ b ∨ P.ini.contains f = true) ∧ Pst ⟨Γ, b, b :: bs, G⟩ (Den Γ) ι F Q E (bodyR (exs (ecOf P b (callF P n)) zf.body (ds.map some ++ List.replicate (z.N.length - ds.length) none) m))
theorem fnOk_one (gf : Gf ⟨w, K, ca⟩ P fa mg) (ge : Gx1 ⟨w, K, ca⟩ P mg) {n : Nat} (ih : ∀ (f : String) (zf : ZFun), P.funs.lookup f = some zf → FnR prog w K mg base (L2.CX prog w) (3 * n) (fa f) (spR ⟨w, K, ca⟩ P n f)) {f : String} {zf : ZFun} {z : DefZ} {fd : FuncData} (F1 : FunD K z.d.name z.d.qual z.d.params z.d.body z.d.scope [] (z.d.kws K) (fa f) fd) (ck : fnB P f zf z = true) :
    FnOk prog w K mg base (L2.CX prog w) (3 * n + 2 + 1) (fa f) fd z.ps (spB ⟨w, K, ca⟩ P n f zf z) := by
  unfold fnB at ck
  simp only [Bool.and_eq_true, decide_eq_true_eq, Bool.not_eq_true', List.isEmpty_iff] at ck
  obtain ⟨⟨⟨⟨⟨⟨⟨⟨⟨⟨c1, c2⟩, c3⟩, c4⟩, c5⟩, c6⟩, c7⟩, c8⟩, c9⟩, c10⟩, c11⟩ := ck
  let Γ : Gl0 := ⟨w, K, ca⟩
  refine F1.ok (scopeB_ok c1) (fun vs H Q E ⟨b, bs, G, ι, F, m, ds, R, x, hl, _, h⟩ => by rw [← x.length]; exact hl) fun cdv A outer s H vs Q E hr ⟨b, bs, G, ι, F, m, ds, R, x, hl, hb, h⟩ => ?_
  let X := cxOf (L2.CX prog w) prog w K mg base z.N z.d.qual z.d.scope (fa f) cdv A outer s H E
  have tk : Takes X (fun cls d σ H' => E cls d H') := takes_of rfl rfl rfl rfl
  have hp : PassesOwn (model X.prog X.w) X.A X.env X.xe := passes_of (X := X) rfl
  have g : GoodX Γ P fa n z.N z.d.scope (fun _ => true) true X :=
    { gx := ⟨rfl, rfl, by have := hr.un; show (A.deeper _).units + 100 < _; omega⟩
      gf := gf
      ge := ge
      nm := rfl
      nd := (scopeB_ok c1).nd
      dbg := fun y hy => by
        have := List.all_eq_true.mp c2 y hy
        rw [Bool.and_eq_true, Bool.not_eq_true', Bool.not_eq_true'] at this
        exact this
      scp := rfl
      fnc := fun _ _ => rfl
      clm := fun _ => rfl
      room := fun _ => hr
      calls := fun _ => ih }
  refine ⟨_, okSs_ok (base := b) zf.body c11 g hp tk, b :: bs, G, ι, F, _, m, start_sr (N := z.N) x, R, ?_⟩
  cases e : exs (ecOf P b (callF P n)) zf.body (ds.map some ++ List.replicate (z.N.length - ds.length) none) m with
  | ok fl m' =>
    rw [e] at h
    cases fl with
    | nx ρ' => exact fun σ' ι' F' H' e1 R1 sr => h .non ι' F' H' e1 R1 rfl
    | rt d =>
      rcases hb with hb | hb
      · intro v ι' F' H' e1 R1 dv
        have : ι.take b = ι := List.take_of_length_le (by rw [R.len]; exact hb)
        exact h v ι' F' H' (by rw [this] at e1; exact e1) R1 dv
      · have nr : noRts zf.body = true := by
          rcases (Bool.or_eq_true _ _).mp c10 with q | q
          · rw [hb] at q; cases q
          · exact q
        have := noRts_ok (ecOf P b (callF P n)) zf.body (ds.map some ++ List.replicate (z.N.length - ds.length) none) m nr
        rw [e] at this
        exact this.elim
    | bk ρ' => exact h.elim
    | ct ρ' => exact h.elim
  | exc c fs ρ' m' =>
    rw [e] at h
    exact fun σ' ι' F' H' cls d e1 R1 sr xd => h ι' F' H' cls d e1 R1 xd
  | bad => rw [e] at h; exact h.elim
theorem fnR_all (gf : Gf ⟨w, K, ca⟩ P fa mg) (ge : Gx1 ⟨w, K, ca⟩ P mg) (defs : ∀ f zf, P.funs.lookup f = some zf → DefOk K P fa f zf) : ∀ (n : Nat) (f : String) (zf : ZFun), P.funs.lookup f = some zf → FnR prog w K mg base (L2.CX prog w) (3 * n) (fa f) (spR ⟨w, K, ca⟩ P n f)
  | 0, f, zf, hf => fun A outer s H us vs Q E hr e0 r ⟨b, bs, G, ι, F, m, ds, R, x, _, h⟩ => h.elim
  | n + 1, f, zf, hf => by
    have ih := fnR_all gf ge defs n
    obtain ⟨z, fd, F1, ck⟩ := defs f zf hf
    have ok := fnOk_one (n := n) gf ge ih F1 ck
    unfold fnB at ck
    simp only [Bool.and_eq_true, decide_eq_true_eq, Bool.not_eq_true', List.isEmpty_iff] at ck
    obtain ⟨⟨⟨⟨⟨⟨⟨⟨⟨⟨c1, c2⟩, c3⟩, c4⟩, c5⟩, c6⟩, c7⟩, c8⟩, c9⟩, c10⟩, c11⟩ := ck
    have bd : Binds K fd z.ps [] := F1.bindsN fun kV doc pm an cdv ct us hl => bind_plain c3 kV doc pm an cdv ct us hl
    refine ((ok.raw bd .nil).mono (by omega)).imp fun vs H Q E ⟨b, bs, G, ι, F, m, ds, R, x, hb, h⟩ => ?_
    rw [List.append_nil]
    by_cases hl : ds.length = zf.np
    · rw [callF_succ hf c6 c7 hl, c5] at h
      exact ⟨b, bs, G, ι, F, m, ds, R, x, by rw [hl, c4], hb, h⟩
    · rw [callF_args hf c6 c7 hl] at h
      exact h.elim
end
end Zi
set_option maxHeartbeats 4000000
/-! Z10c: what the head must show, as one Bool; the law's end. -/
namespace Zi
open PySem PySem.Spec PyProof.Rows L2
theorem mem_of_lookup {α : Type} {k : String} {v : α} : ∀ {l : List (String × α)}, l.lookup k = some v → (k, v) ∈ l
  | [], h => nomatch h
  | (a, b) :: r, h => by
    rw [List.lookup_cons] at h
    cases e : (k == a) with
    | true =>
      rw [e] at h
      cases h
      rw [eq_of_beq e]
      exact List.mem_cons_self
    | false =>
      rw [e] at h
      exact List.mem_cons_of_mem _ (mem_of_lookup h)
def litV : D → Option V
  | .non => some .non
  | .bl b => some (.bl b)
  | .int i => some (.int i)
  | .str x => some (.str x)
  | _ => none
theorem litV_den {Γ : Gl0} {d : D} {v : V} (h : litV d = some v) (ι : List Addr) (F : Hp) : Den Γ ι F d v := by
  cases d <;> first | (cases h; rfl) | cases h
def vOk (v? : Option V) (u? : Option (Option Value)) : Bool := match v?, u? with
  | some v, some (some u) => He.relB v u
  | _, _ => false
theorem vOk_ok {v? : Option V} {u? : Option (Option Value)} (h : vOk v? u? = true) : ∃ v u, v? = some v ∧ u? = some (some u) ∧ RelV v u := by
  unfold vOk at h
  split at h
  · exact ⟨_, _, rfl, rfl, He.relB_ok h⟩
  · cases h
abbrev caK (K : PySem.W.Frag) : String → Addr := fun c => He.ga K (Str.ofString c)
abbrev Loc := String → Str × Option Str
abbrev faK (K : PySem.W.Frag) (loc : Loc) : String → Addr := fun f => He.fAd K (loc f)
def fnAtB (K : PySem.W.Frag) (f : Addr) : Bool := PySem.W.isFn K (.ref f) && PySem.W.keepIn K (.ref f)
def clfB (K : PySem.W.Frag) (C : Addr) : Bool :=
  PySem.W.plainGet K C Str.empty && (PySem.W.hasDictIn K C && (PySem.W.plainOver K C && (He.eqO (PySem.W.findIn K (.ref C) "__setattr__") (some (some (.builtin "object.__setattr__")))
  && (He.eqO (PySem.W.findIn K (.ref C) "__class__") (some (some (.builtin "object.__class__"))) && (He.eqO (PySem.W.specialIn K (.builtin "object.__class__") "__get__") (some (some (.builtin "getset_descriptor.__get__")))
  && (decide (PySem.W.takesIn K (.builtin "object.__class__") = some true) && (decide (PySem.W.mroIn K C (.type "object") = some true) && PySem.W.selfFirst K C)))))))
def clsB (P : ZP) (loc : Loc) (K : PySem.W.Frag) (c : String) (q : ZCls) : Bool :=
  He.eqO (PySem.W.nsIn K mainGlobals (Str.ofString c)) (some (some (.ref (caK K c)))) && (clfB K (caK K c) && (!tyNames.contains c
  && ((q.flds.all fun f => He.eqO (PySem.W.findIn K (.ref (caK K c)) (Str.ofString f)) (some none))
  && ((q.cons.all fun p => vOk (litV p.2) (PySem.W.findIn K (.ref (caK K c)) (Str.ofString p.1)) && (match PySem.W.findIn K (.ref (caK K c)) (Str.ofString p.1) with
      | some (some u) => decide (PySem.W.specialIn K u "__get__" = some none)
      | _ => false) && !PySem.W.copiedNames.contains (Str.ofString p.1))
  && ((q.meths.all fun p => He.eqO (PySem.W.findIn K (.ref (caK K c)) (Str.ofString p.1)) (some (some (.ref (faK K loc p.2)))) && fnAtB K (faK K loc p.2))
  && (match q.meths.lookup "__init__" with
    | some g => PySem.W.makesIn K (caK K c) && PySem.W.keepIn K (.ref (caK K c)) && P.ini.contains g
    | none => true))))))
def tyVK (K : PySem.W.Frag) (t : String) : Value := if tyNames.contains t then .type t else .ref (caK K t)
def kitB (P : ZP) (K : PySem.W.Frag) (t u : String) : Bool := decide (PySem.W.kitOne K (tyVK K t) (tyVK K u) = some (t == u || (t == "bool" && u == "int") || (ecOf P 0 fun _ _ _ _ => .bad).sub t u))
def xsB (K : PySem.W.Frag) (c : String) (fs : List String) : Bool :=
  He.eqO (PySem.W.nsIn K mainGlobals (Str.ofString c)) (some (some (.ref (caK K c)))) && (PySem.W.keepIn K (.ref (caK K c)) && (decide (PySem.W.subIn K (.ref (caK K c)) (.type "BaseException") = some true) && (decide (PySem.W.typeIn K (.ref (caK K c)) = some (.type "type"))
  && (!fs.isEmpty || PySem.W.excIn K (caK K c) [.type "ValueError", .type "Exception", .type "BaseException", .type "object"] "ValueError.__new__"))))
/-- all that is asked of the written part -/
def gfB (P : ZP) (loc : Loc) (K : PySem.W.Frag) : Bool :=
  (P.gl.all fun f => He.eqO (PySem.W.nsIn K mainGlobals (Str.ofString f)) (some (some (.ref (faK K loc f)))) && PySem.W.keepIn K (.ref (faK K loc f)))
  && ((P.cls.all fun p => clsB P loc K p.1 p.2)
  && ((bltNames.all fun x => He.eqO (PySem.W.nsIn K mainGlobals (Str.ofString x)) (some none))
  && ((P.gv.all fun p => vOk (litV p.2) (PySem.W.nsIn K mainGlobals (Str.ofString p.1)))
  && (((tyNames ++ P.cls.map (·.1)).all fun t => (tyNames ++ P.cls.map (·.1)).all fun u => kitB P K t u)
  && ((P.xs.all fun p => xsB K p.1 p.2.2)
  && (P.xs.all fun p => P.xs.all fun r => decide (PySem.W.exmOne K (.ref (caK K p.1)) (.ref (caK K r.1)) = some (isTy (ecOf P 0 fun _ _ _ _ => .bad).sub p.1 [r.1]))))))))
section
variable {P : ZP} {loc : Loc} {K : PySem.W.Frag} {h : Heap} {mg : Str → Option Value} {w : World}
open He (ba)
theorem clf_of {C : Addr} (c : clfB K C = true) : ClF K C := by
  obtain ⟨c1, c⟩ := ba c
  obtain ⟨c2, c⟩ := ba c
  obtain ⟨c3, c⟩ := ba c
  obtain ⟨c4, c⟩ := ba c
  obtain ⟨c5, c⟩ := ba c
  obtain ⟨c6, c⟩ := ba c
  obtain ⟨c7, c⟩ := ba c
  obtain ⟨c8, c9⟩ := ba c
  exact ⟨⟨c1, c2, c3, He.eqO_ok c4⟩, He.eqO_ok c5, He.eqO_ok c6, of_decide_eq_true c7, of_decide_eq_true c8, c9⟩
theorem gf_of (X : K.In h) (G : h.Ns mainGlobals mg) (c : gfB P loc K = true) : Gf ⟨w, K, caK K⟩ P (faK K loc) mg ∧ Gx1 ⟨w, K, caK K⟩ P mg := by
  obtain ⟨g1, c⟩ := ba c
  obtain ⟨g2, c⟩ := ba c
  obtain ⟨g3, c⟩ := ba c
  obtain ⟨g4, c⟩ := ba c
  obtain ⟨g5, c⟩ := ba c
  obtain ⟨g6, g7⟩ := ba c
  have cl : ∀ k q, P.cls.lookup k = some q → clsB P loc K k q = true := fun k q e => List.all_eq_true.mp g2 (k, q) (mem_of_lookup e)
  have xx : ∀ k q, P.xs.lookup k = some q → xsB K k q.2 = true := fun k q e => List.all_eq_true.mp g6 (k, q) (mem_of_lookup e)
  have tyM : ∀ t, (tyNames.contains t = true ∨ ∃ q, P.cls.lookup t = some q) → t ∈ tyNames ++ P.cls.map (·.1) := fun t ht => by
    rcases ht with ht | ⟨q, hq⟩
    · exact List.mem_append_left _ (by simpa using ht)
    · exact List.mem_append_right _ (List.mem_map.mpr ⟨_, mem_of_lookup hq, rfl⟩)
  refine ⟨⟨fun f hf => ?_, fun k q e => ?_, fun k q f e hf => ?_, fun k q f d e hf => ?_, fun k q f g e hf => ?_, fun k q g e hg => ?_, fun k q g e hg => ?_, fun x hx => ?_, fun x d e => ?_, fun t u ht hu => ?_⟩, ⟨fun k q e => ?_, fun k bs e => ?_, fun k h q r e1 e2 => ?_⟩⟩
  · obtain ⟨k1, k2⟩ := ba (List.all_eq_true.mp g1 f hf)
    exact ⟨PySem.W.mg_of X G (He.eqO_ok k1), k2⟩
  · obtain ⟨c1, c2⟩ := ba (cl k q e)
    obtain ⟨c3, c4⟩ := ba c2
    obtain ⟨c5, c6⟩ := ba c4
    exact ⟨PySem.W.mg_of X G (He.eqO_ok c1), clf_of c3, by simpa using c5⟩
  · obtain ⟨_, c2⟩ := ba (cl k q e)
    obtain ⟨_, c2⟩ := ba c2
    obtain ⟨_, c2⟩ := ba c2
    obtain ⟨c2, _⟩ := ba c2
    exact He.eqO_ok (List.all_eq_true.mp c2 f (by simpa using hf))
  · obtain ⟨_, c2⟩ := ba (cl k q e)
    obtain ⟨_, c2⟩ := ba c2
    obtain ⟨_, c2⟩ := ba c2
    obtain ⟨_, c2⟩ := ba c2
    obtain ⟨c2, _⟩ := ba c2
    obtain ⟨k1, k3⟩ := ba (List.all_eq_true.mp c2 (f, d) (mem_of_lookup hf))
    obtain ⟨k1, k2⟩ := ba k1
    obtain ⟨v, u, e1, e2, r⟩ := vOk_ok k1
    have k2' : (match PySem.W.findIn K (.ref (caK K k)) (Str.ofString f) with
      | some (some u) => decide (PySem.W.specialIn K u "__get__" = some none)
      | _ => false) = true := k2
    rw [show PySem.W.findIn K (.ref (caK K k)) (Str.ofString f) = some (some u) from e2] at k2'
    exact ⟨v, u, ⟨e2, r, of_decide_eq_true k2', by simpa using k3⟩, fun ι F => litV_den e1 ι F⟩
  · obtain ⟨_, c2⟩ := ba (cl k q e)
    obtain ⟨_, c2⟩ := ba c2
    obtain ⟨_, c2⟩ := ba c2
    obtain ⟨_, c2⟩ := ba c2
    obtain ⟨_, c2⟩ := ba c2
    obtain ⟨c2, _⟩ := ba c2
    obtain ⟨k1, k2⟩ := ba (List.all_eq_true.mp c2 (f, g) (mem_of_lookup hf))
    obtain ⟨k3, k4⟩ := ba k2
    exact ⟨He.eqO_ok k1, k3, k4⟩
  · obtain ⟨_, c2⟩ := ba (cl k q e)
    obtain ⟨_, c2⟩ := ba c2
    obtain ⟨_, c2⟩ := ba c2
    obtain ⟨_, c2⟩ := ba c2
    obtain ⟨_, c2⟩ := ba c2
    obtain ⟨c3, c4⟩ := ba c2
    rw [hg] at c4
    obtain ⟨k0, _⟩ := ba (show (PySem.W.makesIn K (caK K k) && PySem.W.keepIn K (.ref (caK K k)) && P.ini.contains g) = true from c4)
    obtain ⟨k1, k2⟩ := ba k0
    obtain ⟨j1, j2⟩ := ba (List.all_eq_true.mp c3 ("__init__", g) (mem_of_lookup hg))
    obtain ⟨j3, j4⟩ := ba j2
    exact ⟨k1, He.eqO_ok j1, j3, k2⟩
  · obtain ⟨_, c2⟩ := ba (cl k q e)
    obtain ⟨_, c2⟩ := ba c2
    obtain ⟨_, c2⟩ := ba c2
    obtain ⟨_, c2⟩ := ba c2
    obtain ⟨_, c2⟩ := ba c2
    obtain ⟨c3, c4⟩ := ba c2
    rw [hg] at c4
    exact (ba (show (PySem.W.makesIn K (caK K k) && PySem.W.keepIn K (.ref (caK K k)) && P.ini.contains g) = true from c4)).2
  · exact PySem.W.mg_none_of X G (He.eqO_ok (List.all_eq_true.mp g3 x hx))
  · obtain ⟨v, u, e1, e2, r⟩ := vOk_ok (List.all_eq_true.mp g4 (x, d) (mem_of_lookup e))
    exact ⟨v, u, PySem.W.mg_of X G e2, r, fun ι F => litV_den e1 ι F⟩
  · exact of_decide_eq_true (List.all_eq_true.mp (List.all_eq_true.mp g5 t (tyM t ht)) u (tyM u hu))
  · obtain ⟨c1, c2⟩ := ba (xx k q e)
    obtain ⟨c3, c4⟩ := ba c2
    obtain ⟨c5, c6⟩ := ba c4
    obtain ⟨c7, c8⟩ := ba c6
    exact ⟨PySem.W.mg_of X G (He.eqO_ok c1), c3, of_decide_eq_true c5, of_decide_eq_true c7⟩
  · obtain ⟨c1, c2⟩ := ba (xx k _ e)
    obtain ⟨c3, c4⟩ := ba c2
    obtain ⟨c5, c6⟩ := ba c4
    obtain ⟨c7, c8⟩ := ba c6
    rcases (Bool.or_eq_true _ _).mp c8 with z | z
    · cases z
    · exact z
  · exact of_decide_eq_true (List.all_eq_true.mp (List.all_eq_true.mp g7 (k, q) (mem_of_lookup e1)) (h, r) (mem_of_lookup e2))
end
/-! ### the Hook -/
def obsZ (q : PySem.W.Frag → Bool) (fn : List He.DefD) (K : PySem.W.Frag) : He.AlD := (q K && fn.all fun d => d.ok K, fn.map fun d => He.fnW K d.at_)
def SaysZ (q : PySem.W.Frag → Bool) (fn : List He.DefD) (K : PySem.W.Frag) : Prop := obsZ q fn K = He.valD fn
def obsZG (n : Nat) (q : PySem.W.Frag → Bool) (fn : List He.DefD) (g : Addr → Option Obj) : He.AlD := obsZ q fn (He.frG g (He.asD g n))
def hookZ (n : Nat) (q : PySem.W.Frag → Bool) (fn : List He.DefD) : PySem.W.Hook where
  α := He.AlD
  obs := fun s => obsZG n q fn s.heap.get?
  val := fun _ => He.valD fn
  says := fun _ h => ∃ K : PySem.W.Frag, K.In h ∧ SaysZ q fn K
  of := fun _ _ e => ⟨_, He.frG_in, e⟩
  keeps := fun _ _ _ ⟨K, hK, c⟩ k => ⟨K, PySem.W.Frag.In.keeps hK k, c⟩
theorem obsZG_eq {n : Nat} {q : PySem.W.Frag → Bool} {fn : List He.DefD} {g : Addr → Option Obj} {s : Shared} (h : ∀ a, g a = s.heap.get? a) : obsZG n q fn g = (hookZ n q fn).obs s := by
  have e : g = s.heap.get? := funext h
  rw [e] <;> rfl
section
variable {q : PySem.W.Frag → Bool} {fn : List He.DefD} {K : PySem.W.Frag}
theorem SaysZ.ask (c : SaysZ q fn K) : q K = true := (He.ba (show (q K && fn.all fun d => d.ok K) = true from congrArg (fun z : He.AlD => z.1) c)).1
theorem SaysZ.def_ (c : SaysZ q fn K) {d : He.DefD} (hd : d ∈ fn) : ∃ fd, FunD K d.name d.qual d.params d.body d.scope (d.dvs K) (d.kws K) (He.fAd K d.at_) fd := by
  have c2 := (He.ba (show (q K && fn.all fun d => d.ok K) = true from congrArg (fun z : He.AlD => z.1) c)).2
  have e : fn.map (fun d => He.fnW K d.at_) = fn.map He.DefD.val := congrArg (fun z : He.AlD => z.2) c
  obtain ⟨i, hi⟩ := List.getElem?_of_mem hd
  have e2 : (fn.map fun d => He.fnW K d.at_)[i]? = (fn.map He.DefD.val)[i]? := by rw [e]
  rw [List.getElem?_map, List.getElem?_map, hi] at e2
  exact He.DefD.funD (Option.some.inj e2) (List.all_eq_true.mp c2 d hd)
end
/-! ### the law's end -/
theorem hr_start (Γ : Gl0) (H : Hp) : HR Γ 0 [0] (fun _ => none) [] H [] H where
  g := fun _ _ h => nomatch h
  f := Sub.refl H
  fg := fun _ _ h => nomatch h
  len := rfl
  live := fun i a o h => by simp at h
  uniq := fun i j a o u h => by simp at h
  top := ⟨List.mem_cons_self, fun b hb => by
    rcases List.mem_cons.mp hb with rfl | hb
    · exact ⟨Nat.le_refl _, Nat.zero_le _⟩
    · cases hb⟩
  bel := fun b hb i o hi h => by simp at h
theorem dens_ints {Γ : Gl0} {ι : List Addr} {F : Hp} : ∀ ns : List Int, Dens Γ ι F (ns.map D.int) (ns.map V.int)
  | [] => rfl
  | n :: ns => ⟨.int n, _, rfl, rfl, dens_ints ns⟩
/-- the defs, by their table -/
def defsB (P : ZP) (loc : Loc) (tab : List (String × DefZ)) : Bool := P.funs.all fun p => match tab.lookup p.1 with
  | some z => decide (z.d.at_ = loc p.1) && fnB P p.1 p.2 z
  | none => false
theorem defs_of {P : ZP} {loc : Loc} {tab : List (String × DefZ)} {K : PySem.W.Frag} {q : PySem.W.Frag → Bool} (c : SaysZ q (tab.map (·.2.d)) K) (h : defsB P loc tab = true) {f : String} {zf : ZFun} (hf : P.funs.lookup f = some zf) :
    ∃ z fd, tab.lookup f = some z ∧ FunD K z.d.name z.d.qual z.d.params z.d.body z.d.scope [] (z.d.kws K) (faK K loc f) fd ∧ fnB P f zf z = true := by
  have h1 := List.all_eq_true.mp h (f, zf) (mem_of_lookup hf)
  have h2 : (match tab.lookup f with
    | some z => decide (z.d.at_ = loc f) && fnB P f zf z
    | none => false) = true := h1
  split at h2
  · rename_i z e
    obtain ⟨k1, k2⟩ := He.ba h2
    have k1 := of_decide_eq_true k1
    obtain ⟨fd, F⟩ := c.def_ (d := z.d) (List.mem_map.mpr ⟨(f, z), mem_of_lookup e, rfl⟩)
    have hd : z.d.dfl = [] := by
      have ck := k2
      unfold fnB at ck
      simp only [Bool.and_eq_true, List.isEmpty_iff] at ck
      exact ck.1.1.1.2
    have e0 : z.d.dvs K = [] := by unfold He.DefD.dvs; rw [hd]; rfl
    rw [e0, k1] at F
    exact ⟨z, fd, e, F, k2⟩
  · cases h2
/-- what walk_ofE asks -/
theorem law_end {prog : Program} {w : World} {P : ZP} {loc : Loc} {tab : List (String × DefZ)} {K : PySem.W.Frag} {h : Heap} {mg : Str → Option Value} {n : Nat} {zf : ZFun} {z : DefZ} {x : Str} {f : Addr} {most : Nat}
    (X : K.In h) (G : h.Ns mainGlobals mg) (c : SaysZ (gfB P loc) (tab.map (·.2.d)) K) (db : defsB P loc tab = true) (hl : loc "law" = (("law" : Str), none)) (hm : mg ("law" : Str) = some (.ref f)) (hgl : P.gl.contains "law" = true) (hf : P.funs.lookup "law" = some zf) (hz : tab.lookup "law" = some z) (hps : z.ps = [x])
    (run : ∀ ns : List Int, ns.length ≤ most → ∃ m, callF P (n + 1) 0 "law" [.kls (ns.map D.int)] [] = .ok (.bl true) m) :
    ∃ (fd : FuncData) (sp : Sp), (∀ (s : Shared) (u : Value), BindsTo s fd ⟨[u], []⟩ [(x, u)]) ∧
      (∀ (H : Hp) (a : Addr) (ns : List Int), ns.length ≤ most → Only H → SqL K H a (ns.map V.int) → sp [.ref a] H (fun v _ => v = .bl true) fun _ _ _ => False) ∧
      ∀ base : Heap, K.In base → base.Ns mainGlobals mg → FnOk prog w K mg base (L2.CX prog w) (3 * n + 2 + 1) f fd [x] sp := by
  obtain ⟨gf, ge⟩ := gf_of (w := w) X G c.ask
  obtain ⟨z', fd, e, F, ck⟩ := defs_of c db hf
  rw [hz] at e
  cases e
  have ef : f = faK K loc "law" := by
    have := (gf.gl "law" (by simpa using hgl)).1
    have e2 : mg ("law" : Str) = some (.ref (faK K loc "law")) := this
    rw [hm] at e2
    injection e2 with e2
    injection e2
  have ck0 := ck
  unfold fnB at ck
  simp only [Bool.and_eq_true, decide_eq_true_eq, Bool.not_eq_true', List.isEmpty_iff] at ck
  obtain ⟨⟨⟨⟨⟨⟨⟨⟨⟨⟨c1, c2⟩, c3⟩, c4⟩, c5⟩, c6⟩, c7⟩, c8⟩, c9⟩, c10⟩, c11⟩ := ck
  refine ⟨fd, spB ⟨w, K, caK K⟩ P n "law" zf z, fun s u => ?_, fun H a ns hn hO hS => ?_, fun base b1 b2 => ?_⟩
  · have := FunD.bindsA (ps := z.ps) F (fun kV doc pm an cdv ct us hl => bind_plain c3 kV doc pm an cdv ct us hl) s [u] (by rw [hps]; rfl)
    rw [hps] at this
    exact this
  · obtain ⟨m, e⟩ := run ns hn
    rw [callF_succ hf c6 c7 (by rw [c4, hps]; rfl), c5] at e
    refine ⟨0, [], fun _ => none, [], H, [], [.kls (ns.map D.int)], hr_start _ H, Dens.one ⟨a, _, rfl, hS, dens_ints ns⟩, by rw [hps]; rfl, .inl (Nat.le_refl _), ?_⟩
    rw [e]
    exact fun v ι' F' H' e1 R1 dv => dv
  · rw [ef, ← hps]
    exact fnOk_one gf ge (fnR_all gf ge (fun f zf hf => let ⟨z, fd, _, F, ck⟩ := defs_of c db hf; ⟨z, fd, F, ck⟩) n) F ck0

/-- as walk_ofE, for defs that may raise -/
theorem walk_ofZ {l : PySem.W.OpenLaw} {n k : Nat} {q : Program} {loose : List Str} {XP : (Str → Option Value) → Heap → Prop} {YP : World → Heap → Prop} {d : DefRec} {x : Str}
    (hn : l.most = some n) (hn2 : n ≤ sizeLine) (hdf : d.params.defaults = []) (hr : Room k callerA)
    (F : ∀ (w : World) (mg : Str → Option Value) (fa : Addr) (h : Heap), YP w h → h.Ns mainGlobals mg → mg d.name = some (.ref fa) →
      ∃ (K : PySem.W.Frag) (fd : FuncData) (sp : Sp), K.In h ∧ (∀ (s : Shared) (u : Value), BindsTo s fd ⟨[u], []⟩ [(x, u)]) ∧
        (∀ (H : Hp) (a : Addr) (ns : List Int), ns.length ≤ n → Only H → SqL K H a (ns.map V.int) → sp [.ref a] H (fun v _ => v = .bl true) fun _ _ _ => False) ∧
        ∀ base : Heap, K.In base → base.Ns mainGlobals mg → FnOk l.prog w K mg base (L2.CX l.prog w) k fa fd [x] sp) :
    PySem.W.WalkO q loose XP YP l.row.toRowW d [] (fun f vs => PySem.call f vs) := by
  refine Att.attach_call hn hdf fun w s₀ s₁ mg mb fa o pm cd doc a vs ns G Y ho hd hcd hmg hobj hints hlen hg => ?_
  obtain ⟨K, fd, sp, KX, hb, hsp, hF⟩ := F w mg fa _ Y G.T.g hmg
  exact law_call KX G.T.g G.T.b G.T.builtins G.T.nolimit hg hobj hints (Nat.le_trans hlen hn2) hr hF hb (fun H hO hS => hsp H a ns hlen hO hS) fun H e s' hx => by
    obtain ⟨_, _, _, _, _, _, _, _, _, _, _, _, z⟩ := hx
    exact z
end Zi
set_option maxHeartbeats 4000000
/-! Z11: the evaluator's equations, for running programs by simp. -/
namespace Zi
open PySem
section
variable {c : EC} {ρ : Ev} {m : MH}
@[simp] theorem ev_var (i : Nat) : ev c (.var i) ρ m = ofO (ρ[i]?.getD none) m := by rw [ev]
@[simp] theorem ev_lit (d : D) : ev c (.lit d) ρ m = .ok d m := by rw [ev]
@[simp] theorem ev_glo (x : String) (d : D) : ev c (.glo x d) ρ m = .ok d m := by rw [ev]
@[simp] theorem ev_tup (es : List Z) : ev c (.tup es) ρ m = (evs c es ρ m).bind mkT := by rw [ev]
@[simp] theorem ev_lst (fz : Bool) (es : List Z) : ev c (.lst fz es) ρ m = (evs c es ρ m).bind (mkL fz) := by rw [ev]
@[simp] theorem ev_bin (op : Operator) (fz : Bool) (a b : Z) : ev c (.bin op fz a b) ρ m = (ev c a ρ m).bind fun x m => (ev c b ρ m).bind fun y m => binD op fz x y m := by rw [ev]
@[simp] theorem ev_neg (a : Z) : ev c (.neg a) ρ m = (ev c a ρ m).bind fun x m => match x with
    | .int i => .ok (.int (-i)) m
    | _ => .bad := by rw [ev] <;> rfl
@[simp] theorem ev_cmp (op : CmpOp) (a b : Z) : ev c (.cmp op a b) ρ m = (ev c a ρ m).bind fun x m => (ev c b ρ m).bind fun y m => (ofO (cmpD op x y m) m).bind fun k m => .ok (.bl k) m := by rw [ev]
@[simp] theorem ev_chn (op op' : CmpOp) (a b d : Z) : ev c (.chn op op' a b d) ρ m = (ev c a ρ m).bind fun x m => (ev c b ρ m).bind fun y m => (ofO (cmpD op x y m) m).bind fun k m =>
    if k = true then (ev c d ρ m).bind fun z m => (ofO (cmpD op' y z m) m).bind fun k m => .ok (.bl k) m else .ok (.bl false) m := by rw [ev]
@[simp] theorem ev_and (a b : Z) : ev c (.and a b) ρ m = (ev c a ρ m).bind fun x m => (ofO (truth m x) m).bind fun k m => if k = true then ev c b ρ m else .ok x m := by rw [ev]
@[simp] theorem ev_or (a b : Z) : ev c (.or a b) ρ m = (ev c a ρ m).bind fun x m => (ofO (truth m x) m).bind fun k m => if k = true then .ok x m else ev c b ρ m := by rw [ev]
@[simp] theorem ev_not (a : Z) : ev c (.not a) ρ m = (ev c a ρ m).bind fun x m => (ofO (truth m x) m).bind fun k m => .ok (.bl (!k)) m := by rw [ev]
@[simp] theorem ev_ite (t a b : Z) : ev c (.ite t a b) ρ m = (ev c t ρ m).bind fun x m => (ofO (truth m x) m).bind fun k m => if k = true then ev c a ρ m else ev c b ρ m := by rw [ev]
def attR (c : EC) (x : D) (f : String) (m : MH) : R D := match getI m x with
    | some (k, fs) => if c.fld k f = true then ofO (fs.lookup f) m else (match fs.lookup f with
      | none => ofO (c.con k f) m
      | some _ => .bad)
    | none => .bad
@[simp] theorem ev_att (a : Z) (f : String) : ev c (.att a f) ρ m = (ev c a ρ m).bind fun x m => attR c x f m := by rw [ev] <;> rfl
@[simp] theorem ev_sub (a i : Z) : ev c (.sub a i) ρ m = (ev c a ρ m).bind fun x m => (ev c i ρ m).bind fun y m => ofO (subD x y m) m := by rw [ev]
@[simp] theorem ev_slc (fz : Bool) (a : Z) (lo hi : Option Z) : ev c (.slc fz a lo hi) ρ m = (ev c a ρ m).bind fun x m => (evO c lo ρ m).bind fun l m => (evO c hi ρ m).bind fun h m => slcD fz x l h m := by rw [ev]
@[simp] theorem evO_none : evO c none ρ m = .ok none m := by rw [evO]
@[simp] theorem evO_some (e : Z) : evO c (some e) ρ m = (ev c e ρ m).bind fun x m => match x with
    | .int i => .ok (some (.int i)) m
    | _ => .bad := by rw [evO] <;> rfl
def revR (fz : Bool) (x : D) (m : MH) : R D := match getL m x with
    | some ds => mkL fz ds.reverse m
    | none => .bad
@[simp] theorem ev_rev (fz : Bool) (a : Z) : ev c (.rev fz a) ρ m = (ev c a ρ m).bind fun x m => revR fz x m := by rw [ev] <;> rfl
@[simp] theorem ev_call (kp : Bool) (f : String) (es : List Z) : ev c (.call kp f es) ρ m = (evs c es ρ m).bind fun xs m => gcR m.length kp (c.call m.length f xs m) := by rw [ev]
def metR (c : EC) (kp : Bool) (f : String) (x : D) (xs : MH → R (List D)) (m : MH) : R D := match getI m x with
    | some (k, fs) => match c.meth k f, fs.lookup f with
      | some g, none => (xs m).bind fun xs m => gcR m.length kp (c.call m.length g (x :: xs) m)
      | _, _ => .bad
    | none => .bad
@[simp] theorem ev_met (kp : Bool) (f : String) (o : Z) (es : List Z) : ev c (.met kp f o es) ρ m = (ev c o ρ m).bind fun x m => metR c kp f x (fun m => evs c es ρ m) m := by rw [ev] <;> rfl
def ownR (c : EC) (kp : Bool) (f : String) (x : D) (xs : MH → R (List D)) (m : MH) : R D := match getI m x with
    | some (k, fs) => match c.meth k f, fs.lookup f with
      | some g, none => (xs m).bind fun xs m => if ownPre f k x xs m = true then ((gcR m.length kp (c.call m.length g (x :: xs) m)).nox).bind (ownPost f) else .bad
      | _, _ => .bad
    | none => .bad
@[simp] theorem ev_own (kp : Bool) (f : String) (o : Z) (es : List Z) : ev c (.own kp f o es) ρ m = (ev c o ρ m).bind fun x m => ownR c kp f x (fun m => evs c es ρ m) m := by rw [ev] <;> rfl
def mkR (c : EC) (fz : Bool) (k : String) (xs : List D) (m : MH) : R D := match c.init k with
    | some g => (gcR m.length true (c.call m.length g (.ref m.length :: xs) (m ++ [some (.ins k [])]))).bind (mkPost fz m.length)
    | none => .bad
@[simp] theorem ev_mk (fz : Bool) (k : String) (es : List Z) : ev c (.mk fz k es) ρ m = (evs c es ρ m).bind fun xs m => mkR c fz k xs m := by rw [ev] <;> rfl
@[simp] theorem ev_blt (b : Bl) (fz : Bool) (es : List Z) : ev c (.blt b fz es) ρ m = (evs c es ρ m).bind fun xs m => bltD b fz xs m := by rw [ev]
@[simp] theorem ev_bmt (b : Bm) (fz : Bool) (o : Z) (es : List Z) : ev c (.bmt b fz o es) ρ m = (ev c o ρ m).bind fun x m => if kindD m x = some (bmT b) then (evs c es ρ m).bind fun xs m => bmtD c.base b fz x xs m else .bad := by rw [ev]
@[simp] theorem ev_isi (a : Z) (ts : List String) : ev c (.isi a ts) ρ m = (ev c a ρ m).bind fun x m => (ofO (tyOf m x) m).bind fun t m => if knownT c.cls t = true then .ok (.bl (isTy c.sub t ts)) m else .bad := by rw [ev]
def lcTurn (c : EC) (own : List Nat) (t : T) (ifs : List Z) (e : Z) (ρ : Ev) (d : D) (m : MH) : R (Option D) := (asgT c t d (wipeE ρ own) m).bind fun ρ' m => (evTs c ifs ρ' m).bind fun k m =>
      if k = true then (ev c e ρ' m).bind fun y m => .ok (some y) m else .ok none m
@[simp] theorem ev_lc (fz : Bool) (own : List Nat) (e : Z) (t : T) (it : It) (ifs : List Z) : ev c (.lc fz own e (.mk t it ifs)) ρ m = (evI c it ρ m).bind fun (q : It1) m => (compL (sameB q.2) (lcTurn c own t ifs e ρ) q.1 [] m).nox.bind (mkL fz) := by rw [ev] <;> rfl
@[simp] theorem evs_nil : evs c [] ρ m = .ok [] m := by rw [evs]
@[simp] theorem evs_cons (e : Z) (es : List Z) : evs c (e :: es) ρ m = (ev c e ρ m).bind fun x m => (evs c es ρ m).bind fun xs m => .ok (x :: xs) m := by rw [evs]
@[simp] theorem evTs_nil : evTs c [] ρ m = .ok true m := by rw [evTs]
@[simp] theorem evTs_cons (e : Z) (es : List Z) : evTs c (e :: es) ρ m = (ev c e ρ m).bind fun x m => (ofO (truth m x) m).bind fun k m => if k = true then evTs c es ρ m else .ok false m := by rw [evTs]
@[simp] theorem evI_seq (e : Z) : evI c (.seq e) ρ m = (ev c e ρ m).bind fun x m => (ofO (seqD m x) m).bind fun ds m => .ok (ds, lockOf m x) m := by rw [evI]
@[simp] theorem evI_rng (es : List Z) : evI c (.rng es) ρ m = (evs c es ρ m).bind fun xs m => (ofO (rngD xs) m).bind fun ds m => .ok (ds, []) m := by rw [evI]
@[simp] theorem evI_enu (e : Z) : evI c (.enu e) ρ m = (ev c e ρ m).bind fun x m => (ofO (getL m x) m).bind fun ds m => .ok (enumD 0 ds, lockOf m x) m := by rw [evI]
@[simp] theorem evI_zip (a b : Z) : evI c (.zip a b) ρ m = (ev c a ρ m).bind fun x m => (ev c b ρ m).bind fun y m => (ofO (zip2D m x y) m).bind fun ds m => .ok (ds, lockOf m x ++ lockOf m y) m := by rw [evI]
variable {d : D}
@[simp] theorem asgT_nm (i : Nat) : asgT c (.nm i) d ρ m = .ok (ρ.set i (some d)) m := by rw [asgT]
@[simp] theorem asgT_tp (ts : List T) (ds : List D) : asgT c (.tp ts) (.tup ds) ρ m = if ds.length = ts.length then (asgTs c ts ds ρ m).nox else .bad := by rw [asgT]
@[simp] theorem asgT_sb (o i : Z) : asgT c (.sb o i) d ρ m = (ev c o ρ m).bind fun x m => (ev c i ρ m).bind fun y m => (setD c.base x y d m).bind fun _ m => .ok ρ m := by rw [asgT]
@[simp] theorem asgT_at (o : Z) (f : String) : asgT c (.at o f) d ρ m = (ev c o ρ m).bind fun x m => (setA c.base c.fld x f d m).bind fun _ m => .ok ρ m := by rw [asgT]
@[simp] theorem asgTs_nil : asgTs c [] [] ρ m = .ok ρ m := by rw [asgTs]
@[simp] theorem asgTs_cons (t : T) (ts : List T) (ds : List D) : asgTs c (t :: ts) (d :: ds) ρ m = (asgT c t d ρ m).bind fun ρ m => asgTs c ts ds ρ m := by rw [asgTs]
@[simp] theorem ex_exp (e : Z) : ex c (.exp e) ρ m = (ev c e ρ m).st ρ fun _ m => .ok (.nx ρ) m := by rw [ex]
@[simp] theorem ex_asg (t : T) (e : Z) : ex c (.asg t e) ρ m = (ev c e ρ m).st ρ fun x m => (asgT c t x ρ m).st ρ fun ρ' m => .ok (.nx ρ') m := by rw [ex]
@[simp] theorem ex_aug (i : Nat) (op : Operator) (e : Z) : ex c (.aug i op e) ρ m = (ofO (ρ[i]?.getD none) m).st ρ fun x m => (ev c e ρ m).st ρ fun y m => (iopD c.base op x y m).st ρ fun z m => .ok (.nx (ρ.set i (some z))) m := by rw [ex]
@[simp] theorem ex_augS (o i : Z) (op : Operator) (e : Z) : ex c (.augS o i op e) ρ m = (ev c o ρ m).st ρ fun x m => (ev c i ρ m).st ρ fun k m => (ofO (subD x k m) m).st ρ fun old m => (ev c e ρ m).st ρ fun y m =>
    (iopD c.base op old y m).st ρ fun z m => (setD c.base x k z m).st ρ fun _ m => .ok (.nx ρ) m := by rw [ex]
@[simp] theorem ex_retF (e : Z) : ex c (.ret false e) ρ m = (ev c e ρ m).st ρ fun x m => .ok (.rt x) m := by rw [ex] <;> rfl
@[simp] theorem ex_retT (e : Z) : ex c (.ret true e) ρ m = (ev c e ρ m).st ρ fun x m => (frz c.base x m).st ρ fun x m => .ok (.rt x) m := by rw [ex] <;> rfl
@[simp] theorem ex_ifs (t : Z) (a b : List S) : ex c (.ifs t a b) ρ m = (ev c t ρ m).st ρ fun x m => (ofO (truth m x) m).st ρ fun k m => if k = true then exs c a ρ m else exs c b ρ m := by rw [ex]
@[simp] theorem ex_whl (t : Z) (b : List S) : ex c (.whl t b) ρ m = whileL c.lim (fun ρ m => (ev c t ρ m).bind fun x m => ofO (truth m x) m) (fun ρ m => exs c b ρ m) ρ m := by rw [ex]
@[simp] theorem ex_for (t : T) (it : It) (b : List S) : ex c (.for t it b) ρ m = (evI c it ρ m).st ρ fun (q : It1) m => forL (sameB q.2) (fun d ρ m => (asgT c t d ρ m).st ρ fun ρ m => exs c b ρ m) q.1 ρ m := by rw [ex]
@[simp] theorem ex_pass : ex c .pass ρ m = .ok (.nx ρ) m := by rw [ex]
def sqR (r : RS) (k : Ev → MH → RS) : RS := match r with
  | .ok (.nx ρ') m' => k ρ' m'
  | r => r
@[simp] theorem sqR_nx (ρ : Ev) (m : MH) (k : Ev → MH → RS) : sqR (.ok (.nx ρ) m) k = k ρ m := rfl
@[simp] theorem sqR_rt (d : D) (m : MH) (k : Ev → MH → RS) : sqR (.ok (.rt d) m) k = .ok (.rt d) m := rfl
@[simp] theorem exs_nil : exs c [] ρ m = .ok (.nx ρ) m := by rw [exs]
@[simp] theorem exs_cons (s : S) (ss : List S) : exs c (s :: ss) ρ m = sqR (ex c s ρ m) fun ρ m => exs c ss ρ m := by rw [exs] <;> rfl
end
@[simp] theorem bodyR_rt (d : D) (m : MH) : bodyR (.ok (.rt d) m) = .ok d m := rfl
@[simp] theorem bodyR_nx (ρ : Ev) (m : MH) : bodyR (.ok (.nx ρ) m) = .ok .non m := rfl
section
variable {m : MH}
@[simp] theorem truth_bl (b : Bool) : truth m (.bl b) = some b := rfl
@[simp] theorem truth_non : truth m .non = some false := rfl
@[simp] theorem truth_int (i : Int) : truth m (.int i) = some (i != 0) := rfl
@[simp] theorem cmp_lt (i j : Int) : cmpD .Lt (.int i) (.int j) m = some (decide (i < j)) := rfl
@[simp] theorem cmp_le (i j : Int) : cmpD .LtE (.int i) (.int j) m = some (decide (i ≤ j)) := rfl
@[simp] theorem cmp_gt (i j : Int) : cmpD .Gt (.int i) (.int j) m = some (decide (j < i)) := rfl
@[simp] theorem cmp_ge (i j : Int) : cmpD .GtE (.int i) (.int j) m = some (decide (j ≤ i)) := rfl
theorem nf_inj_int (i j : Int) : (decide (K2.num i = K2.num j)) = decide (i = j) := by
  by_cases h : i = j
  · subst h; simp
  · have : ¬ K2.num i = K2.num j := fun e => h (by injection e)
    simp [h, this]
@[simp] theorem cmp_eqI (i j : Int) : cmpD .Eq (.int i) (.int j) m = some (decide (i = j)) := by
  show (if K2.fit (.num i) 60 = true ∧ K2.fit (.num j) 60 = true then some (decide (K2.num i = K2.num j)) else none) = _
  rw [if_pos ⟨rfl, rfl⟩, nf_inj_int]
@[simp] theorem cmp_neI (i j : Int) : cmpD .NotEq (.int i) (.int j) m = some (!decide (i = j)) := by
  show (cmpD .Eq (.int i) (.int j) m).map not = _
  rw [cmp_eqI]; rfl
@[simp] theorem cmp_neN (i : Int) : cmpD .NotEq (.int i) .non m = some true := rfl
@[simp] theorem cmp_neN2 (i : Int) : cmpD .NotEq .non (.int i) m = some true := rfl
@[simp] theorem cmp_neNN : cmpD .NotEq .non .non m = some false := rfl
@[simp] theorem cmp_neB (a b : Bool) : cmpD .NotEq (.bl a) (.bl b) m = some (a != b) := by cases a <;> cases b <;> rfl
@[simp] theorem cmp_is (x : D) : cmpD .Is x .non m = some (isNon x) := rfl
@[simp] theorem cmp_isNot (x : D) : cmpD .IsNot x .non m = some (!isNon x) := rfl
@[simp] theorem isNon_non : isNon .non = true := rfl
@[simp] theorem isNon_int (i : Int) : isNon (.int i) = false := rfl
@[simp] theorem bin_add (fz : Bool) (i j : Int) : binD .Add fz (.int i) (.int j) m = .ok (.int (i + j)) m := rfl
@[simp] theorem bin_sub (fz : Bool) (i j : Int) : binD .Sub fz (.int i) (.int j) m = .ok (.int (i - j)) m := rfl
@[simp] theorem blt_max2 (fz : Bool) (i j : Int) : bltD .max2 fz [.int i, .int j] m = .ok (.int (max i j)) m := by
  show R.ok (D.int (if j > i then j else i)) m = _
  congr 2
  split <;> omega
@[simp] theorem blt_min2 (fz : Bool) (i j : Int) : bltD .min2 fz [.int i, .int j] m = .ok (.int (min i j)) m := by
  show R.ok (D.int (if j < i then j else i)) m = _
  congr 2
  split <;> omega
@[simp] theorem blt_int (fz : Bool) (i : Int) : bltD .int fz [.int i] m = .ok (.int i) m := rfl
@[simp] theorem blt_abs (fz : Bool) (i : Int) : bltD .abs fz [.int i] m = .ok (.int (if i < 0 then -i else i)) m := rfl
@[simp] theorem blt_len (fz : Bool) (ds : List D) : bltD .len fz [.lst ds] m = .ok (.int ds.length) m := rfl
@[simp] theorem blt_lenK (fz : Bool) (ds : List D) : bltD .len fz [.kls ds] m = .ok (.int ds.length) m := rfl
@[simp] theorem iop_add (base : Nat) (i j : Int) : iopD base .Add (.int i) (.int j) m = .ok (.int (i + j)) m := rfl
theorem intsD_map : ∀ ns : List Int, intsD (ns.map D.int) = some ns
  | [] => rfl
  | n :: ns => by show (intsD (ns.map D.int)).map (n :: ·) = _; rw [intsD_map ns]; rfl
theorem boolsD_map : ∀ ns : List Bool, boolsD (ns.map D.bl) = some ns
  | [] => rfl
  | n :: ns => by show (boolsD (ns.map D.bl)).map (n :: ·) = _; rw [boolsD_map ns]; rfl
@[simp] theorem blt_sum (fz : Bool) (ns : List Int) : bltD .sum fz [.lst (ns.map D.int)] m = .ok (.int ns.sum) m := by
  show (match (getL m (.lst (ns.map D.int))).bind intsD with
    | some ns => R.ok (D.int ns.sum) m
    | none => .bad) = _
  rw [show getL m (.lst (ns.map D.int)) = some (ns.map D.int) from rfl, Option.bind_some, intsD_map]
@[simp] theorem blt_all (fz : Bool) (ns : List Bool) : bltD .all fz [.lst (ns.map D.bl)] m = .ok (.bl (ns.all id)) m := by
  show (match (getL m (.lst (ns.map D.bl))).bind boolsD with
    | some bs => R.ok (D.bl (bs.all id)) m
    | none => .bad) = _
  rw [show getL m (.lst (ns.map D.bl)) = some (ns.map D.bl) from rfl, Option.bind_some, boolsD_map]
@[simp] theorem blt_any (fz : Bool) (ns : List Bool) : bltD .any fz [.lst (ns.map D.bl)] m = .ok (.bl (ns.any id)) m := by
  show (match (getL m (.lst (ns.map D.bl))).bind boolsD with
    | some bs => R.ok (D.bl (bs.any id)) m
    | none => .bad) = _
  rw [show getL m (.lst (ns.map D.bl)) = some (ns.map D.bl) from rfl, Option.bind_some, boolsD_map]
theorem maxI_fold : ∀ (l : List Int) (a : Int), maxI l a = l.foldl max a
  | [], _ => rfl
  | b :: r, a => by
    unfold maxI
    rw [maxI_fold r, List.foldl_cons]
    congr 1
    split <;> omega
@[simp] theorem blt_maxL (fz : Bool) (a : Int) (ns : List Int) : bltD .maxL fz [.lst (D.int a :: ns.map D.int)] m = .ok (.int (ns.foldl max a)) m := by
  show (match (getL m (.lst ((a :: ns).map D.int))).bind intsD with
    | some (a :: r) => R.ok (D.int (maxI r a)) m
    | _ => .bad) = _
  rw [show getL m (.lst ((a :: ns).map D.int)) = some ((a :: ns).map D.int) from rfl, Option.bind_some, intsD_map]
  show R.ok (D.int (maxI ns a)) m = _
  rw [maxI_fold]
end
/-! ### calls that leave all that stood -/
/-- f hands back d, whatever stands; what it makes is garbage -/
def Ret (P : ZP) (n : Nat) (f : String) (xs : List D) (d : D) : Prop := ∀ m : MH, ∃ x, callF P n m.length f xs m = .ok d (m ++ x)
mutual
theorem pureD_below (n : Nat) : ∀ d : D, pure d = true → below n d = true := fun d h => pure_below n d h
end
theorem gc_ret {P : ZP} {n : Nat} {f : String} {xs : List D} {d : D} (h : Ret P n f xs d) (hp : pure d = true) (m : MH) : gcR m.length false (callF P n m.length f xs m) = .ok d m := by
  obtain ⟨x, e⟩ := h m
  rw [e]
  show gc m.length d (m ++ x) = _
  unfold gc
  rw [if_pos (pure_below _ d hp), List.take_left]
theorem Ret.call {P : ZP} {n : Nat} {f : String} {xs : List D} {d : D} {b : Nat} (h : Ret P n f xs d) (hp : pure d = true) (m : MH) : gcR m.length false ((ecOf P b (callF P n)).call m.length f xs m) = .ok d m := gc_ret h hp m
/-! ### loops -/
theorem compL_map {same : MH → Bool} {turn : D → MH → R (Option D)} {m : MH} (hs : same m = true) (g : D → D) : ∀ (ds acc : List D), (∀ d ∈ ds, turn d m = .ok (some (g d)) m) → acc.length + ds.length ≤ SZ → compL same turn ds acc m = .ok (acc ++ ds.map g) m
  | [], acc, _, _ => by
    unfold compL
    rw [if_pos hs]; simp
  | d :: ds, acc, h, hl => by
    unfold compL
    rw [if_pos hs, h d List.mem_cons_self]
    simp only [R.bind_ok]
    rw [List.length_cons] at hl
    rw [if_pos (by omega), compL_map hs g ds _ (fun e he => h e (List.mem_cons_of_mem _ he)) (by rw [List.length_append, List.length_singleton]; omega)]
    simp
/-- .. with tests -/
theorem compL_filter {same : MH → Bool} {turn : D → MH → R (Option D)} {m : MH} (hs : same m = true) (g : D → Option D) : ∀ (ds acc : List D), (∀ d ∈ ds, turn d m = .ok (g d) m) → acc.length + ds.length ≤ SZ → compL same turn ds acc m = .ok (acc ++ ds.filterMap g) m
  | [], acc, _, _ => by
    unfold compL
    rw [if_pos hs]; simp
  | d :: ds, acc, h, hl => by
    unfold compL
    rw [if_pos hs, h d List.mem_cons_self]
    rw [List.length_cons] at hl
    cases e : g d with
    | none =>
      simp only [R.bind_ok]
      rw [compL_filter hs g ds _ (fun e he => h e (List.mem_cons_of_mem _ he)) (by omega), List.filterMap_cons, e]
    | some v =>
      simp only [R.bind_ok]
      rw [if_pos (by omega), compL_filter hs g ds _ (fun e he => h e (List.mem_cons_of_mem _ he)) (by rw [List.length_append, List.length_singleton]; omega), List.filterMap_cons, e]
      simp
/-- a for loop by an invariant over the items gone through -/
theorem forL_inv {same : MH → Bool} {turn : D → Ev → MH → RS} (I : List D → Ev → MH → Prop) (all : List D) (hs : ∀ done ρ m, I done ρ m → same m = true) (h : ∀ done d rest ρ m, all = done ++ d :: rest → I done ρ m → ∃ ρ' m', turn d ρ m = .ok (.nx ρ') m' ∧ I (done ++ [d]) ρ' m') :
    ∀ (ds done : List D) (ρ : Ev) (m : MH), all = done ++ ds → I done ρ m → ∃ ρ' m', forL same turn ds ρ m = .ok (.nx ρ') m' ∧ I all ρ' m'
  | [], done, ρ, m, e, i => by
    unfold forL
    rw [if_pos (hs _ _ _ i)]
    rw [List.append_nil] at e
    exact ⟨ρ, m, rfl, e ▸ i⟩
  | d :: ds, done, ρ, m, e, i => by
    obtain ⟨ρ', m', e1, i1⟩ := h done d ds ρ m e i
    unfold forL
    rw [if_pos (hs _ _ _ i), e1]
    exact forL_inv I all hs h ds (done ++ [d]) ρ' m' (by rw [e]; simp) i1
end Zi
set_option maxHeartbeats 4000000
/-! Z12: more for running programs: while, freezing, new lists. -/
namespace Zi
open PySem
theorem whileL_res {c : Ev → MH → R Bool} {b : Ev → MH → RS} (I : Nat → Ev → MH → Prop) (Post : RS → Prop)
    (h : ∀ k ρ m, I k ρ m → (c ρ m = .ok false m ∧ Post (.ok (.nx ρ) m)) ∨ (c ρ m = .ok true m ∧ ((∃ k' ρ' m', k' < k ∧ b ρ m = .ok (.nx ρ') m' ∧ I k' ρ' m') ∨ (∃ d m', b ρ m = .ok (.rt d) m' ∧ Post (.ok (.rt d) m'))))) :
    ∀ (fuel k : Nat) (ρ : Ev) (m : MH), k < fuel → I k ρ m → Post (whileL fuel c b ρ m)
  | 0, k, ρ, m, hk, i => by omega
  | fuel + 1, k, ρ, m, hk, i => by
    unfold whileL
    rcases h k ρ m i with ⟨e, p⟩ | ⟨e, p⟩
    · rw [e]; exact p
    · rw [e]
      simp only [R.st_ok, if_true]
      rcases p with ⟨k', ρ', m', h1, h2, h3⟩ | ⟨d, m', h1, h2⟩
      · rw [h2]
        exact whileL_res I Post h fuel k' ρ' m' (by omega) h3
      · rw [h1]; exact h2
mutual
theorem frzW_pure (k : Nat → Option D) : ∀ d : D, pure d = true → frzW k d = some d
  | .non, _ => rfl
  | .bl _, _ => rfl
  | .int _, _ => rfl
  | .str _, _ => rfl
  | .tup ds, h => by show (frzWs k ds).map D.tup = _; rw [frzWs_pure k ds h]; rfl
  | .lst ds, h => by show (frzWs k ds).map D.lst = _; rw [frzWs_pure k ds h]; rfl
  | .kls ds, h => by show (frzWs k ds).map D.kls = _; rw [frzWs_pure k ds h]; rfl
  | .dct t kvs, h => by show (frzWKV k kvs).map (D.dct t) = _; rw [frzWKV_pure k kvs h]; rfl
  | .ins c fs, h => by show (frzWF k fs).map (D.ins c) = _; rw [frzWF_pure k fs h]; rfl
  | .ref _, h => by cases h
theorem frzWs_pure (k : Nat → Option D) : ∀ ds : List D, pures ds = true → frzWs k ds = some ds
  | [], _ => rfl
  | d :: ds, h => by
    have h' : (pure d && pures ds) = true := h
    rw [Bool.and_eq_true] at h'
    unfold frzWs
    rw [frzW_pure k d h'.1, frzWs_pure k ds h'.2]
theorem frzWKV_pure (k : Nat → Option D) : ∀ kvs : List (D × D), pureKV kvs = true → frzWKV k kvs = some kvs
  | [], _ => rfl
  | (a, b) :: r, h => by
    have h' : (pure a && (pure b && pureKV r)) = true := h
    rw [Bool.and_eq_true, Bool.and_eq_true] at h'
    unfold frzWKV
    rw [frzW_pure k a h'.1, frzW_pure k b h'.2.1, frzWKV_pure k r h'.2.2]
theorem frzWF_pure (k : Nat → Option D) : ∀ fs : Fs, pureF fs = true → frzWF k fs = some fs
  | [], _ => rfl
  | (f, b) :: r, h => by
    have h' : (pure b && pureF r) = true := h
    rw [Bool.and_eq_true] at h'
    unfold frzWF
    rw [frzW_pure k b h'.1, frzWF_pure k r h'.2]
end
theorem frz_pureD {base : Nat} {d : D} {m : MH} (h : pure d = true) : frz base d m = .ok d (m.take base) := by
  unfold frz
  rw [frzW_pure _ d h]
/-- the newest list, handed back for ever -/
theorem frz_new {ds : List D} {m : MH} {x : List (Option Ob)} (h : pures ds = true) : frz m.length (.ref m.length) (m ++ some (.lst ds) :: x) = .ok (.lst ds) m := by
  unfold frz
  have e : frzW (frzAt m.length (m ++ some (.lst ds) :: x) 8) (.ref m.length) = some (.lst ds) := by
    show frzAt m.length (m ++ some (.lst ds) :: x) 8 m.length = _
    unfold frzAt
    rw [if_neg (Nat.lt_irrefl _), List.getElem?_append_right (Nat.le_refl _), Nat.sub_self, List.getElem?_cons_zero]
    simp only
    rw [frzWs_pure _ ds h]; rfl
  rw [e]
  simp
theorem append_new {base : Nat} {fz : Bool} {m : MH} {ds : List D} {y : D} (h : ds.length < 16777216) (hb : base ≤ m.length) : bmtD base .append fz (.ref m.length) [y] (m ++ [some (.lst ds)]) = .ok .non (m ++ [some (.lst (ds ++ [y]))]) := by
  unfold bmtD
  simp only
  rw [List.getElem?_append_right (Nat.le_refl _), Nat.sub_self, List.getElem?_cons_zero]
  simp only
  rw [if_pos (show ds.length < SZ from h)]
  unfold put
  rw [if_pos (.inl hb)]
  simp only [R.bind_ok]
  congr 1
  rw [List.set_append_right _ _ (Nat.le_refl _), Nat.sub_self]
  rfl
theorem kind_new {m : MH} {ds : List D} : kindD (m ++ [some (.lst ds)]) (.ref m.length) = some "list" := by
  unfold kindD
  simp
theorem range_at {f : Nat → D} {n : Nat} {done rest : List D} {d : D} (h : (List.range n).map f = done ++ d :: rest) : d = f done.length ∧ done.length < n ∧ done = (List.range done.length).map f := by
  have hl : done.length < n := by
    have := congrArg List.length h
    simp at this
    omega
  have h1 : ((List.range n).map f)[done.length]? = some d := by
    rw [h, List.getElem?_append_right (Nat.le_refl _), Nat.sub_self, List.getElem?_cons_zero]
  refine ⟨?_, hl, ?_⟩
  · rw [List.getElem?_map, List.getElem?_range hl] at h1
    exact (Option.some.inj h1).symm
  · have h2 := congrArg (List.take done.length) h
    rw [List.take_left, ← List.map_take, List.take_range, Nat.min_eq_left (by omega)] at h2
    exact h2.symm
theorem rng1 {n : Nat} (h : n < 1000000) : rngD [.int n] = some ((List.range n).map fun (k : Nat) => .int k) := by
  have h1 : natB 4611686018427387903 (n : Int) = true := natB_ok.mpr (by omega)
  unfold rngD
  dsimp only
  rw [if_pos h1, Int.toNat_natCast]
end Zi
namespace Zi
open PySem
theorem setA_new {base : Nat} {fld : String → String → Bool} {m : MH} {c f : String} {fs : Fs} {v : D} (h : fld c f = true) (hl : fs.length < 1000) (hb : base ≤ m.length) : setA base fld (.ref m.length) f v (m ++ [some (.ins c fs)]) = .ok () (m ++ [some (.ins c (fput fs f v))]) := by
  unfold setA
  simp only
  rw [List.getElem?_append_right (Nat.le_refl _), Nat.sub_self, List.getElem?_cons_zero]
  simp only
  rw [if_pos ⟨h, hl⟩]
  unfold put
  rw [if_pos (.inl hb), List.set_append_right _ _ (Nat.le_refl _), Nat.sub_self]
  rfl
theorem frz_newI {c : String} {fs : Fs} {m : MH} (h : pureF fs = true) : frz m.length (.ref m.length) (m ++ [some (.ins c fs)]) = .ok (.ins c fs) m := by
  unfold frz
  have e : frzW (frzAt m.length (m ++ [some (.ins c fs)]) 8) (.ref m.length) = some (.ins c fs) := by
    show frzAt m.length (m ++ [some (.ins c fs)]) 8 m.length = _
    unfold frzAt
    rw [if_neg (Nat.lt_irrefl _), List.getElem?_append_right (Nat.le_refl _), Nat.sub_self, List.getElem?_cons_zero]
    simp only
    rw [frzWF_pure _ fs h]; rfl
  rw [e]
  simp
theorem mk_new {C : EC} {k g : String} {xs : List D} {m : MH} {fs : Fs} (hi : C.init k = some g) (h : C.call m.length g (.ref m.length :: xs) (m ++ [some (.ins k [])]) = .ok .non (m ++ [some (.ins k fs)])) (hp : pureF fs = true) : mkR C true k xs m = .ok (.ins k fs) m := by
  unfold mkR
  rw [hi]
  simp only
  rw [h]
  show mkPost true m.length .non (m ++ [some (.ins k fs)]) = _
  unfold mkPost
  simp only
  rw [if_pos trivial, frz_newI hp]
end Zi
set_option maxHeartbeats 4000000
namespace K56
open PySem Zi
def top (i : Nat) : Stmt := PySem.Challenge.pw_allbrokers_k56_whole_lags_and_rates.main.body.getD i (.Pass ⟨0, 0, 0, 0⟩)
def clsBody : Stmt → List Stmt
  | .ClassDef _ _ _ b _ _ _ _ _ _ _ => b
  | _ => []
def mth (i j : Nat) : Stmt := (clsBody (top i)).getD j (.Pass ⟨0, 0, 0, 0⟩)

def z_is_natural : ZFun := { np := 2, dfl := [], star := false, ns := 2, body := [.ret false (.and (.isi (.var 0) ["int"]) (.and (.not (.isi (.var 0) ["bool"])) (.chn .LtE .LtE (.lit (.int 0)) (.var 0) (.var 1))))] }
def dz_is_natural : DefZ := { d := { at_ := (PySem.Str.ofString "is_natural", none), name := PySem.Str.ofString "is_natural", qual := PySem.Str.ofString "is_natural", params := L2.defArgs (top 12), body := L2.defBody (top 12), scope := L2.defScope (top 12) }, N := [PySem.Str.ofString "thing", PySem.Str.ofString "most"], ps := [PySem.Str.ofString "thing", PySem.Str.ofString "most"] }
def z_are_numbers : ZFun := { np := 1, dfl := [], star := false, ns := 2, body := [.ifs (.or (.not (.isi (.var 0) ["list", "tuple"])) (.cmp .Gt (.blt .len true [.var 0]) (.glo "MOST_TICKS" (.int 24)))) [.ret false (.lit (.bl false))] [], .ret false (.blt .all true [.lc true [1] (.call false "is_natural" [.var 1, .glo "MOST_NUMBER" (.int 100)]) (.mk (.nm 1) (.seq (.var 0)) [])])] }
def dz_are_numbers : DefZ := { d := { at_ := (PySem.Str.ofString "are_numbers", none), name := PySem.Str.ofString "are_numbers", qual := PySem.Str.ofString "are_numbers", params := L2.defArgs (top 13), body := L2.defBody (top 13), scope := L2.defScope (top 13) }, N := [PySem.Str.ofString "thing", PySem.Str.ofString "one"], ps := [PySem.Str.ofString "thing"] }
def z_common : ZFun := { np := 2, dfl := [], star := false, ns := 4, body := [.asg (.tp [.nm 2, .nm 3]) (.tup [.var 0, .var 1]), .whl (.cmp .NotEq (.var 3) (.lit (.int 0))) [.asg (.tp [.nm 2, .nm 3]) (.tup [.var 3, .bin .Mod true (.var 2) (.var 3)])], .ret false (.bin .Mult true (.bin .FloorDiv true (.var 0) (.var 2)) (.var 1))] }
def dz_common : DefZ := { d := { at_ := (PySem.Str.ofString "common", none), name := PySem.Str.ofString "common", qual := PySem.Str.ofString "common", params := L2.defArgs (top 14), body := L2.defBody (top 14), scope := L2.defScope (top 14) }, N := [PySem.Str.ofString "one", PySem.Str.ofString "two", PySem.Str.ofString "rest", PySem.Str.ofString "last"], ps := [PySem.Str.ofString "one", PySem.Str.ofString "two"] }
def z_number_at : ZFun := { np := 3, dfl := [], star := false, ns := 3, body := [.ret false (.ite (.cmp .Lt (.var 2) (.blt .len true [.var 0])) (.sub (.var 0) (.var 2)) (.sub (.var 1) (.bin .Mod true (.bin .Sub true (.var 2) (.blt .len true [.var 0])) (.blt .len true [.var 1]))))] }
def dz_number_at : DefZ := { d := { at_ := (PySem.Str.ofString "number_at", none), name := PySem.Str.ofString "number_at", qual := PySem.Str.ofString "number_at", params := L2.defArgs (top 15), body := L2.defBody (top 15), scope := L2.defScope (top 15) }, N := [PySem.Str.ofString "front", PySem.Str.ofString "period", PySem.Str.ofString "tick"], ps := [PySem.Str.ofString "front", PySem.Str.ofString "period", PySem.Str.ofString "tick"] }
def z_summed : ZFun := { np := 1, dfl := [], star := false, ns := 7, body := [.asg (.tp [.nm 1, .nm 2]) (.tup [.lit (.int 0), .lit (.int 1)]), .for (.tp [.nm 3, .nm 4]) (.seq (.var 0)) [.asg (.nm 1) (.blt .max2 true [.var 1, .blt .len true [.var 3]]), .asg (.nm 2) (.call false "common" [.var 2, .blt .len true [.var 4]])], .asg (.nm 5) (.lst false []), .for (.nm 6) (.rng [.bin .Add true (.var 1) (.var 2)]) [.exp (.bmt .append true (.var 5) [.blt .sum true [.lc true [3, 4] (.call false "number_at" [.var 3, .var 4, .var 6]) (.mk (.tp [.nm 3, .nm 4]) (.seq (.var 0)) [])]])], .ret true (.tup [.slc true (.var 5) none (some (.var 1)), .slc true (.var 5) (some (.var 1)) none])] }
def dz_summed : DefZ := { d := { at_ := (PySem.Str.ofString "summed", none), name := PySem.Str.ofString "summed", qual := PySem.Str.ofString "summed", params := L2.defArgs (top 16), body := L2.defBody (top 16), scope := L2.defScope (top 16) }, N := [PySem.Str.ofString "tables", PySem.Str.ofString "longest", PySem.Str.ofString "many", PySem.Str.ofString "front", PySem.Str.ofString "period", PySem.Str.ofString "sums", PySem.Str.ofString "tick"], ps := [PySem.Str.ofString "tables"] }
def z_Times___init__ : ZFun := { np := 3, dfl := [], star := false, ns := 3, body := [.ifs (.or (.not (.call false "are_numbers" [.var 1])) (.or (.not (.call false "are_numbers" [.var 2])) (.cmp .Eq (.blt .len true [.var 2]) (.lit (.int 0))))) [.wal] [], .asg (.at (.var 0) "front") (.blt .list true [.var 1]), .asg (.at (.var 0) "period") (.blt .list true [.var 2])] }
def dz_Times___init__ : DefZ := { d := { at_ := (PySem.Str.ofString "Times", some (PySem.Str.ofString "__init__")), name := PySem.Str.ofString "__init__", qual := PySem.Str.ofString "Times.__init__", params := L2.defArgs (mth 17 0), body := L2.defBody (mth 17 0), scope := L2.defScope (mth 17 0) }, N := [PySem.Str.ofString "self", PySem.Str.ofString "front", PySem.Str.ofString "period"], ps := [PySem.Str.ofString "self", PySem.Str.ofString "front", PySem.Str.ofString "period"] }
def z_Times___add__ : ZFun := { np := 2, dfl := [], star := false, ns := 4, body := [.asg (.tp [.nm 2, .nm 3]) (.call false "summed" [.lst true [.tup [.att (.var 0) "front", .att (.var 0) "period"], .tup [.att (.var 1) "front", .att (.var 1) "period"]]]), .ret false (.mk true "Times" [.var 2, .var 3])] }
def dz_Times___add__ : DefZ := { d := { at_ := (PySem.Str.ofString "Times", some (PySem.Str.ofString "__add__")), name := PySem.Str.ofString "__add__", qual := PySem.Str.ofString "Times.__add__", params := L2.defArgs (mth 17 4), body := L2.defBody (mth 17 4), scope := L2.defScope (mth 17 4) }, N := [PySem.Str.ofString "self", PySem.Str.ofString "other", PySem.Str.ofString "front", PySem.Str.ofString "period"], ps := [PySem.Str.ofString "self", PySem.Str.ofString "other"] }
def z_Times_at : ZFun := { np := 2, dfl := [], star := false, ns := 2, body := [.ret false (.call false "number_at" [.att (.var 0) "front", .att (.var 0) "period", .var 1])] }
def dz_Times_at : DefZ := { d := { at_ := (PySem.Str.ofString "Times", some (PySem.Str.ofString "at")), name := PySem.Str.ofString "at", qual := PySem.Str.ofString "Times.at", params := L2.defArgs (mth 17 6), body := L2.defBody (mth 17 6), scope := L2.defScope (mth 17 6) }, N := [PySem.Str.ofString "self", PySem.Str.ofString "tick"], ps := [PySem.Str.ofString "self", PySem.Str.ofString "tick"] }
def z_check_times : ZFun := { np := 1, dfl := [], star := false, ns := 1, body := [.ifs (.not (.isi (.var 0) ["Times"])) [.wal] []] }
def dz_check_times : DefZ := { d := { at_ := (PySem.Str.ofString "check_times", none), name := PySem.Str.ofString "check_times", qual := PySem.Str.ofString "check_times", params := L2.defArgs (top 18), body := L2.defBody (top 18), scope := L2.defScope (top 18) }, N := [PySem.Str.ofString "thing"], ps := [PySem.Str.ofString "thing"] }
def z_joint : ZFun := { np := 1, dfl := [], star := false, ns := 4, body := [.asg (.tp [.nm 1, .nm 2]) (.tup [.lit (.int 0), .lit (.int 1)]), .for (.nm 3) (.seq (.var 0)) [.asg (.nm 1) (.blt .max2 true [.var 1, .blt .len true [.att (.var 3) "front"]]), .asg (.nm 2) (.call false "common" [.var 2, .blt .len true [.att (.var 3) "period"]])], .ret false (.tup [.var 1, .var 2])] }
def dz_joint : DefZ := { d := { at_ := (PySem.Str.ofString "joint", none), name := PySem.Str.ofString "joint", qual := PySem.Str.ofString "joint", params := L2.defArgs (top 19), body := L2.defBody (top 19), scope := L2.defScope (top 19) }, N := [PySem.Str.ofString "tables", PySem.Str.ofString "front", PySem.Str.ofString "period", PySem.Str.ofString "times"], ps := [PySem.Str.ofString "tables"] }
def z_Lag___init__ : ZFun := { np := 3, dfl := [], star := false, ns := 3, body := [.asg (.at (.var 0) "number") (.var 1), .asg (.at (.var 0) "tick") (.var 2)] }
def dz_Lag___init__ : DefZ := { d := { at_ := (PySem.Str.ofString "Lag", some (PySem.Str.ofString "__init__")), name := PySem.Str.ofString "__init__", qual := PySem.Str.ofString "Lag.__init__", params := L2.defArgs (mth 20 1), body := L2.defBody (mth 20 1), scope := L2.defScope (mth 20 1) }, N := [PySem.Str.ofString "self", PySem.Str.ofString "number", PySem.Str.ofString "tick"], ps := [PySem.Str.ofString "self", PySem.Str.ofString "number", PySem.Str.ofString "tick"] }
def z_Lag___bool__ : ZFun := { np := 1, dfl := [], star := false, ns := 1, body := [.ret false (.lit (.bl true))] }
def dz_Lag___bool__ : DefZ := { d := { at_ := (PySem.Str.ofString "Lag", some (PySem.Str.ofString "__bool__")), name := PySem.Str.ofString "__bool__", qual := PySem.Str.ofString "Lag.__bool__", params := L2.defArgs (mth 20 2), body := L2.defBody (mth 20 2), scope := L2.defScope (mth 20 2) }, N := [PySem.Str.ofString "self"], ps := [PySem.Str.ofString "self"] }
def z_Growing___init__ : ZFun := { np := 3, dfl := [], star := false, ns := 3, body := [.asg (.at (.var 0) "growth") (.var 1), .asg (.at (.var 0) "period") (.var 2)] }
def dz_Growing___init__ : DefZ := { d := { at_ := (PySem.Str.ofString "Growing", some (PySem.Str.ofString "__init__")), name := PySem.Str.ofString "__init__", qual := PySem.Str.ofString "Growing.__init__", params := L2.defArgs (mth 21 1), body := L2.defBody (mth 21 1), scope := L2.defScope (mth 21 1) }, N := [PySem.Str.ofString "self", PySem.Str.ofString "growth", PySem.Str.ofString "period"], ps := [PySem.Str.ofString "self", PySem.Str.ofString "growth", PySem.Str.ofString "period"] }
def z_Growing___bool__ : ZFun := { np := 1, dfl := [], star := false, ns := 1, body := [.ret false (.lit (.bl false))] }
def dz_Growing___bool__ : DefZ := { d := { at_ := (PySem.Str.ofString "Growing", some (PySem.Str.ofString "__bool__")), name := PySem.Str.ofString "__bool__", qual := PySem.Str.ofString "Growing.__bool__", params := L2.defArgs (mth 21 2), body := L2.defBody (mth 21 2), scope := L2.defScope (mth 21 2) }, N := [PySem.Str.ofString "self"], ps := [PySem.Str.ofString "self"] }
def z_lags : ZFun := { np := 3, dfl := [], star := false, ns := 6, body := [.asg (.tp [.nm 3, .nm 4]) (.tup [.lst false [], .lit (.int 0)]), .for (.nm 5) (.rng [.var 2]) [.asg (.nm 4) (.blt .max2 true [.lit (.int 0), .bin .Sub true (.bin .Add true (.var 4) (.met false "at" (.var 0) [.var 5])) (.met false "at" (.var 1) [.var 5])]), .exp (.bmt .append true (.var 3) [.var 4])], .ret true (.var 3)] }
def dz_lags : DefZ := { d := { at_ := (PySem.Str.ofString "lags", none), name := PySem.Str.ofString "lags", qual := PySem.Str.ofString "lags", params := L2.defArgs (top 22), body := L2.defBody (top 22), scope := L2.defScope (top 22) }, N := [PySem.Str.ofString "fed", PySem.Str.ofString "read", PySem.Str.ofString "many", PySem.Str.ofString "found", PySem.Str.ofString "now", PySem.Str.ofString "tick"], ps := [PySem.Str.ofString "fed", PySem.Str.ofString "read", PySem.Str.ofString "many"] }
def z_growth_of : ZFun := { np := 2, dfl := [], star := false, ns := 5, body := [.asg (.tp [.nm 2, .nm 3]) (.call false "joint" [.lst true [.var 0, .var 1]]), .asg (.nm 4) (.bin .Sub true (.bin .Mult true (.bin .FloorDiv true (.var 3) (.blt .len true [.att (.var 0) "period"])) (.blt .sum true [.att (.var 0) "period"])) (.bin .Mult true (.bin .FloorDiv true (.var 3) (.blt .len true [.att (.var 1) "period"])) (.blt .sum true [.att (.var 1) "period"]))), .ret false (.tup [.var 4, .var 3])] }
def dz_growth_of : DefZ := { d := { at_ := (PySem.Str.ofString "growth_of", none), name := PySem.Str.ofString "growth_of", qual := PySem.Str.ofString "growth_of", params := L2.defArgs (top 23), body := L2.defBody (top 23), scope := L2.defScope (top 23) }, N := [PySem.Str.ofString "fed", PySem.Str.ofString "read", PySem.Str.ofString "front", PySem.Str.ofString "period", PySem.Str.ofString "more"], ps := [PySem.Str.ofString "fed", PySem.Str.ofString "read"] }
def z_greatest_lag : ZFun := { np := 2, dfl := [], star := false, ns := 6, body := [.exp (.call false "check_times" [.var 0]), .exp (.call false "check_times" [.var 1]), .asg (.tp [.nm 2, .nm 3]) (.call false "growth_of" [.var 0, .var 1]), .ifs (.cmp .Gt (.var 2) (.lit (.int 0))) [.ret false (.mk true "Growing" [.var 2, .var 3])] [], .asg (.nm 4) (.sub (.call false "joint" [.lst true [.var 0, .var 1]]) (.lit (.int 0))), .asg (.nm 5) (.call false "lags" [.var 0, .var 1, .bin .Add true (.var 4) (.bin .Mult true (.lit (.int 2)) (.var 3))]), .ret false (.mk true "Lag" [.blt .maxL true [.var 5], .bmt .index true (.var 5) [.blt .maxL true [.var 5]]])] }
def dz_greatest_lag : DefZ := { d := { at_ := (PySem.Str.ofString "greatest_lag", none), name := PySem.Str.ofString "greatest_lag", qual := PySem.Str.ofString "greatest_lag", params := L2.defArgs (top 24), body := L2.defBody (top 24), scope := L2.defScope (top 24) }, N := [PySem.Str.ofString "fed", PySem.Str.ofString "read", PySem.Str.ofString "growth", PySem.Str.ofString "period", PySem.Str.ofString "front", PySem.Str.ofString "told"], ps := [PySem.Str.ofString "fed", PySem.Str.ofString "read"] }
def z_Keep___init__ : ZFun := { np := 4, dfl := [], star := false, ns := 4, body := [.asg (.at (.var 0) "rows") (.var 1), .asg (.at (.var 0) "tick") (.var 2), .asg (.at (.var 0) "group") (.var 3)] }
def dz_Keep___init__ : DefZ := { d := { at_ := (PySem.Str.ofString "Keep", some (PySem.Str.ofString "__init__")), name := PySem.Str.ofString "__init__", qual := PySem.Str.ofString "Keep.__init__", params := L2.defArgs (mth 27 1), body := L2.defBody (mth 27 1), scope := L2.defScope (mth 27 1) }, N := [PySem.Str.ofString "self", PySem.Str.ofString "rows", PySem.Str.ofString "tick", PySem.Str.ofString "group"], ps := [PySem.Str.ofString "self", PySem.Str.ofString "rows", PySem.Str.ofString "tick", PySem.Str.ofString "group"] }
def z_Keep___bool__ : ZFun := { np := 1, dfl := [], star := false, ns := 1, body := [.ret false (.lit (.bl true))] }
def dz_Keep___bool__ : DefZ := { d := { at_ := (PySem.Str.ofString "Keep", some (PySem.Str.ofString "__bool__")), name := PySem.Str.ofString "__bool__", qual := PySem.Str.ofString "Keep.__bool__", params := L2.defArgs (mth 27 2), body := L2.defBody (mth 27 2), scope := L2.defScope (mth 27 2) }, N := [PySem.Str.ofString "self"], ps := [PySem.Str.ofString "self"] }
def z_check_groups : ZFun := { np := 2, dfl := [], star := false, ns := 3, body := [.exp (.call false "check_times" [.var 0]), .ifs (.or (.not (.isi (.var 1) ["list", "tuple"])) (.cmp .Eq (.blt .len true [.var 1]) (.lit (.int 0)))) [.wal] [], .for (.nm 2) (.seq (.var 1)) [.exp (.call false "check_times" [.var 2])]] }
def dz_check_groups : DefZ := { d := { at_ := (PySem.Str.ofString "check_groups", none), name := PySem.Str.ofString "check_groups", qual := PySem.Str.ofString "check_groups", params := L2.defArgs (top 28), body := L2.defBody (top 28), scope := L2.defScope (top 28) }, N := [PySem.Str.ofString "fed", PySem.Str.ofString "groups", PySem.Str.ofString "times"], ps := [PySem.Str.ofString "fed", PySem.Str.ofString "groups"] }
def z_needs : ZFun := { np := 3, dfl := [], star := false, ns := 5, body := [.asg (.nm 3) (.bin .Add true (.lst true [.lit (.int 0)]) (.call false "lags" [.var 0, .var 1, .var 2])), .ret false (.lc true [4] (.bin .Add true (.sub (.var 3) (.var 4)) (.met false "at" (.var 0) [.var 4])) (.mk (.nm 4) (.rng [.var 2]) []))] }
def dz_needs : DefZ := { d := { at_ := (PySem.Str.ofString "needs", none), name := PySem.Str.ofString "needs", qual := PySem.Str.ofString "needs", params := L2.defArgs (top 29), body := L2.defBody (top 29), scope := L2.defScope (top 29) }, N := [PySem.Str.ofString "fed", PySem.Str.ofString "read", PySem.Str.ofString "many", PySem.Str.ofString "before", PySem.Str.ofString "tick"], ps := [PySem.Str.ofString "fed", PySem.Str.ofString "read", PySem.Str.ofString "many"] }
def z_least_keeping : ZFun := { np := 2, dfl := [], star := false, ns := 12, body := [.exp (.call false "check_groups" [.var 0, .var 1]), .asg (.nm 2) (.lst false []), .for (.tp [.nm 3, .nm 4]) (.enu (.var 1)) [.asg (.tp [.nm 5, .nm 6]) (.call false "growth_of" [.var 0, .var 4]), .ifs (.cmp .Gt (.var 5) (.lit (.int 0))) [.ret false (.mk true "Growing" [.var 5, .var 6])] [], .asg (.nm 7) (.bin .Add true (.sub (.call false "joint" [.lst true [.var 0, .var 4]]) (.lit (.int 0))) (.bin .Mult true (.lit (.int 2)) (.var 6))), .exp (.bmt .append true (.var 2) [.call false "needs" [.var 0, .var 4, .var 7]])], .asg (.nm 8) (.blt .maxL true [.lc true [11] (.blt .maxL true [.var 11]) (.mk (.nm 11) (.seq (.var 2)) [])]), .asg (.tp [.nm 9, .nm 10]) (.call false "first_with" [.var 2, .var 8]), .ret false (.mk true "Keep" [.var 8, .var 10, .var 9])] }
def dz_least_keeping : DefZ := { d := { at_ := (PySem.Str.ofString "least_keeping", none), name := PySem.Str.ofString "least_keeping", qual := PySem.Str.ofString "least_keeping", params := L2.defArgs (top 30), body := L2.defBody (top 30), scope := L2.defScope (top 30) }, N := [PySem.Str.ofString "fed", PySem.Str.ofString "groups", PySem.Str.ofString "found", PySem.Str.ofString "number", PySem.Str.ofString "read", PySem.Str.ofString "growth", PySem.Str.ofString "period", PySem.Str.ofString "many", PySem.Str.ofString "rows", PySem.Str.ofString "group", PySem.Str.ofString "tick", PySem.Str.ofString "told"], ps := [PySem.Str.ofString "fed", PySem.Str.ofString "groups"] }
def z_first_with : ZFun := { np := 2, dfl := [], star := false, ns := 6, body := [.asg (.nm 2) (.lc true [4, 5] (.tup [.bmt .index true (.var 5) [.var 1], .var 4]) (.mk (.tp [.nm 4, .nm 5]) (.enu (.var 0)) [.cmp .In (.var 1) (.var 5)])), .asg (.tp [.nm 3, .nm 4]) (.blt .minT true [.var 2]), .ret false (.tup [.var 4, .var 3])] }
def dz_first_with : DefZ := { d := { at_ := (PySem.Str.ofString "first_with", none), name := PySem.Str.ofString "first_with", qual := PySem.Str.ofString "first_with", params := L2.defArgs (top 31), body := L2.defBody (top 31), scope := L2.defScope (top 31) }, N := [PySem.Str.ofString "rows", PySem.Str.ofString "number", PySem.Str.ofString "found", PySem.Str.ofString "place", PySem.Str.ofString "at", PySem.Str.ofString "row"], ps := [PySem.Str.ofString "rows", PySem.Str.ofString "number"] }
def z_Rate___init__ : ZFun := { np := 3, dfl := [], star := false, ns := 3, body := [.asg (.at (.var 0) "number") (.var 1), .asg (.at (.var 0) "tick") (.var 2)] }
def dz_Rate___init__ : DefZ := { d := { at_ := (PySem.Str.ofString "Rate", some (PySem.Str.ofString "__init__")), name := PySem.Str.ofString "__init__", qual := PySem.Str.ofString "Rate.__init__", params := L2.defArgs (mth 32 1), body := L2.defBody (mth 32 1), scope := L2.defScope (mth 32 1) }, N := [PySem.Str.ofString "self", PySem.Str.ofString "number", PySem.Str.ofString "tick"], ps := [PySem.Str.ofString "self", PySem.Str.ofString "number", PySem.Str.ofString "tick"] }
def z_check_bound : ZFun := { np := 2, dfl := [], star := false, ns := 2, body := [.exp (.call false "check_times" [.var 0]), .ifs (.not (.call false "is_natural" [.var 1, .glo "MOST_LAG" (.int 1000)])) [.wal] []] }
def dz_check_bound : DefZ := { d := { at_ := (PySem.Str.ofString "check_bound", none), name := PySem.Str.ofString "check_bound", qual := PySem.Str.ofString "check_bound", params := L2.defArgs (top 33), body := L2.defBody (top 33), scope := L2.defScope (top 33) }, N := [PySem.Str.ofString "fed", PySem.Str.ofString "most"], ps := [PySem.Str.ofString "fed", PySem.Str.ofString "most"] }
def z_steady_lags : ZFun := { np := 3, dfl := [], star := false, ns := 6, body := [.asg (.tp [.nm 3, .nm 4]) (.tup [.lst false [], .lit (.int 0)]), .for (.nm 5) (.rng [.var 2]) [.asg (.nm 4) (.blt .max2 true [.lit (.int 0), .bin .Sub true (.bin .Add true (.var 4) (.met false "at" (.var 0) [.var 5])) (.var 1)]), .exp (.bmt .append true (.var 3) [.var 4])], .ret true (.var 3)] }
def dz_steady_lags : DefZ := { d := { at_ := (PySem.Str.ofString "steady_lags", none), name := PySem.Str.ofString "steady_lags", qual := PySem.Str.ofString "steady_lags", params := L2.defArgs (top 34), body := L2.defBody (top 34), scope := L2.defScope (top 34) }, N := [PySem.Str.ofString "fed", PySem.Str.ofString "number", PySem.Str.ofString "many", PySem.Str.ofString "found", PySem.Str.ofString "now", PySem.Str.ofString "tick"], ps := [PySem.Str.ofString "fed", PySem.Str.ofString "number", PySem.Str.ofString "many"] }
def z_stays : ZFun := { np := 3, dfl := [], star := false, ns := 3, body := [.ifs (.cmp .Gt (.blt .sum true [.att (.var 0) "period"]) (.bin .Mult true (.var 1) (.blt .len true [.att (.var 0) "period"]))) [.ret false (.lit (.bl false))] [], .ret false (.cmp .LtE (.blt .maxL true [.call false "steady_lags" [.var 0, .var 1, .bin .Add true (.blt .len true [.att (.var 0) "front"]) (.bin .Mult true (.lit (.int 2)) (.blt .len true [.att (.var 0) "period"]))]]) (.var 2))] }
def dz_stays : DefZ := { d := { at_ := (PySem.Str.ofString "stays", none), name := PySem.Str.ofString "stays", qual := PySem.Str.ofString "stays", params := L2.defArgs (top 35), body := L2.defBody (top 35), scope := L2.defScope (top 35) }, N := [PySem.Str.ofString "fed", PySem.Str.ofString "number", PySem.Str.ofString "most"], ps := [PySem.Str.ofString "fed", PySem.Str.ofString "number", PySem.Str.ofString "most"] }
def z_least_rate : ZFun := { np := 2, dfl := [], star := false, ns := 3, body := [.exp (.call false "check_bound" [.var 0, .var 1]), .asg (.nm 2) (.lit (.int 0)), .whl (.not (.call false "stays" [.var 0, .var 2, .var 1])) [.aug 2 .Add (.lit (.int 1))], .ret false (.mk true "Rate" [.var 2, .ite (.cmp .Eq (.var 2) (.lit (.int 0))) (.lit (.non)) (.call false "first_beyond" [.var 0, .bin .Sub true (.var 2) (.lit (.int 1)), .var 1])])] }
def dz_least_rate : DefZ := { d := { at_ := (PySem.Str.ofString "least_rate", none), name := PySem.Str.ofString "least_rate", qual := PySem.Str.ofString "least_rate", params := L2.defArgs (top 36), body := L2.defBody (top 36), scope := L2.defScope (top 36) }, N := [PySem.Str.ofString "fed", PySem.Str.ofString "most", PySem.Str.ofString "number"], ps := [PySem.Str.ofString "fed", PySem.Str.ofString "most"] }
def z_first_beyond : ZFun := { np := 3, dfl := [], star := false, ns := 5, body := [.asg (.tp [.nm 3, .nm 4]) (.tup [.lit (.int 0), .lit (.int 0)]), .whl (.lit (.bl true)) [.asg (.nm 3) (.blt .max2 true [.lit (.int 0), .bin .Sub true (.bin .Add true (.var 3) (.met false "at" (.var 0) [.var 4])) (.var 1)]), .ifs (.cmp .Gt (.var 3) (.var 2)) [.ret false (.var 4)] [], .aug 4 .Add (.lit (.int 1))]] }
def dz_first_beyond : DefZ := { d := { at_ := (PySem.Str.ofString "first_beyond", none), name := PySem.Str.ofString "first_beyond", qual := PySem.Str.ofString "first_beyond", params := L2.defArgs (top 37), body := L2.defBody (top 37), scope := L2.defScope (top 37) }, N := [PySem.Str.ofString "fed", PySem.Str.ofString "number", PySem.Str.ofString "most", PySem.Str.ofString "now", PySem.Str.ofString "tick"], ps := [PySem.Str.ofString "fed", PySem.Str.ofString "number", PySem.Str.ofString "most"] }
def z__law_number : ZFun := { np := 2, dfl := [], star := false, ns := 4, body := [.ifs (.cmp .Eq (.var 0) (.lst true [])) [.ret false (.blt .int true [.bin .Mod true (.bin .Add true (.bin .Mult true (.var 1) (.lit (.int 48271))) (.lit (.int 12345))) (.lit (.int 2147483647))])] [], .asg (.nm 2) (.sub (.var 0) (.bin .Mod true (.var 1) (.blt .len true [.var 0]))), .ifs (.cmp .GtE (.blt .abs true [.var 2]) (.bin .Pow true (.lit (.int 10)) (.lit (.int 60)))) [.asg (.nm 2) (.bin .Mod true (.var 2) (.bin .Pow true (.lit (.int 10)) (.lit (.int 18))))] [], .asg (.nm 3) (.bin .Mod true (.bin .Add true (.bin .Mult true (.bin .Add true (.var 2) (.bin .Mult true (.lit (.int 977)) (.var 1))) (.lit (.int 48271))) (.bin .Mult true (.lit (.int 31)) (.blt .len true [.var 0]))) (.lit (.int 2147483647))), .ret false (.blt .int true [.bin .Mod true (.bin .Add true (.bin .Mult true (.bin .Mod true (.bin .Mult true (.var 3) (.lit (.int 69621))) (.lit (.int 2147483629))) (.lit (.int 16807))) (.var 1)) (.lit (.int 2147483587))])] }
def dz__law_number : DefZ := { d := { at_ := (PySem.Str.ofString "_law_number", none), name := PySem.Str.ofString "_law_number", qual := PySem.Str.ofString "_law_number", params := L2.defArgs (top 39), body := L2.defBody (top 39), scope := L2.defScope (top 39) }, N := [PySem.Str.ofString "_law_script", PySem.Str.ofString "_law_index", PySem.Str.ofString "_law_cell", PySem.Str.ofString "_law_blend"], ps := [PySem.Str.ofString "_law_script", PySem.Str.ofString "_law_index"] }
def z__law_take : ZFun := { np := 2, dfl := [], star := false, ns := 2, body := [.augS (.var 0) (.lit (.int 1)) .Add (.lit (.int 1)), .ret true (.bin .Mod true (.blt .int true [.call false "_law_number" [.sub (.var 0) (.lit (.int 0)), .blt .int true [.sub (.var 0) (.lit (.int 1))]]]) (.var 1))] }
def dz__law_take : DefZ := { d := { at_ := (PySem.Str.ofString "_law_take", none), name := PySem.Str.ofString "_law_take", qual := PySem.Str.ofString "_law_take", params := L2.defArgs (top 40), body := L2.defBody (top 40), scope := L2.defScope (top 40) }, N := [PySem.Str.ofString "_law_draw", PySem.Str.ofString "_law_many"], ps := [PySem.Str.ofString "_law_draw", PySem.Str.ofString "_law_many"] }
def z__law_times : ZFun := { np := 2, dfl := [], star := false, ns := 4, body := [.asg (.nm 2) (.lc true [3] (.call false "_law_take" [.var 0, .bin .Add true (.var 1) (.lit (.int 1))]) (.mk (.nm 3) (.rng [.call false "_law_take" [.var 0, .lit (.int 4)]]) [])), .ret false (.mk true "Times" [.var 2, .lc true [3] (.call false "_law_take" [.var 0, .bin .Add true (.var 1) (.lit (.int 1))]) (.mk (.nm 3) (.rng [.bin .Add true (.lit (.int 1)) (.call false "_law_take" [.var 0, .lit (.int 4)])]) [])])] }
def dz__law_times : DefZ := { d := { at_ := (PySem.Str.ofString "_law_times", none), name := PySem.Str.ofString "_law_times", qual := PySem.Str.ofString "_law_times", params := L2.defArgs (top 42), body := L2.defBody (top 42), scope := L2.defScope (top 42) }, N := [PySem.Str.ofString "_law_draw", PySem.Str.ofString "_law_most", PySem.Str.ofString "_law_front", PySem.Str.ofString "_law_turn"], ps := [PySem.Str.ofString "_law_draw", PySem.Str.ofString "_law_most"] }
def z__law_lag : ZFun := { np := 2, dfl := [], star := false, ns := 3, body := [.asg (.nm 2) (.call false "greatest_lag" [.var 0, .var 1]), .ret false (.ite (.own false "__bool__" (.var 2) []) (.att (.var 2) "number") (.lit (.non)))] }
def dz__law_lag : DefZ := { d := { at_ := (PySem.Str.ofString "_law_lag", none), name := PySem.Str.ofString "_law_lag", qual := PySem.Str.ofString "_law_lag", params := L2.defArgs (top 43), body := L2.defBody (top 43), scope := L2.defScope (top 43) }, N := [PySem.Str.ofString "_law_fed", PySem.Str.ofString "_law_read", PySem.Str.ofString "_law_found"], ps := [PySem.Str.ofString "_law_fed", PySem.Str.ofString "_law_read"] }
def z__law_is_at_most : ZFun := { np := 2, dfl := [], star := false, ns := 2, body := [.ret false (.or (.cmp .Is (.var 1) (.lit (.non))) (.and (.cmp .IsNot (.var 0) (.lit (.non))) (.cmp .LtE (.var 0) (.var 1))))] }
def dz__law_is_at_most : DefZ := { d := { at_ := (PySem.Str.ofString "_law_is_at_most", none), name := PySem.Str.ofString "_law_is_at_most", qual := PySem.Str.ofString "_law_is_at_most", params := L2.defArgs (top 44), body := L2.defBody (top 44), scope := L2.defScope (top 44) }, N := [PySem.Str.ofString "_law_one", PySem.Str.ofString "_law_other"], ps := [PySem.Str.ofString "_law_one", PySem.Str.ofString "_law_other"] }
def z_law : ZFun := { np := 1, dfl := [], star := false, ns := 16, body := [.asg (.nm 1) (.lst false [.var 0, .lit (.int 0)]), .asg (.tp [.nm 2, .nm 3, .nm 4, .nm 5]) (.tup [.call false "_law_times" [.var 1, .lit (.int 6)], .call false "_law_times" [.var 1, .lit (.int 3)], .call false "_law_times" [.var 1, .lit (.int 7)], .call false "_law_times" [.var 1, .lit (.int 7)]]), .asg (.nm 6) (.mk true "Times" [.bin .Add true (.att (.var 2) "front") (.att (.var 2) "period"), .bin .Add true (.att (.var 2) "period") (.att (.var 2) "period")]), .asg (.nm 7) (.call false "_law_lag" [.var 2, .var 4]), .ifs (.or (.cmp .NotEq (.call false "_law_lag" [.var 6, .var 4]) (.var 7)) (.or (.not (.call false "_law_is_at_most" [.var 7, .call false "_law_lag" [.own false "__add__" (.var 2) [.var 3], .var 4]])) (.not (.call false "_law_is_at_most" [.call false "_law_lag" [.var 2, .own false "__add__" (.var 4) [.var 3]], .var 7])))) [.ret false (.lit (.bl false))] [], .asg (.tp [.nm 8, .nm 9]) (.tup [.call false "_law_lag" [.var 2, .var 4], .call false "_law_lag" [.var 3, .var 5]]), .ifs (.and (.cmp .IsNot (.var 8) (.lit (.non))) (.and (.cmp .IsNot (.var 9) (.lit (.non))) (.not (.call false "_law_is_at_most" [.call false "_law_lag" [.own false "__add__" (.var 2) [.var 3], .own false "__add__" (.var 4) [.var 5]], .bin .Add true (.var 8) (.var 9)])))) [.ret false (.lit (.bl false))] [], .asg (.nm 10) (.lc true [11] (.att (.call false "least_rate" [.var 2, .var 11]) "number") (.mk (.nm 11) (.seq (.tup [.lit (.int 0), .lit (.int 1), .lit (.int 5), .lit (.int 20), .lit (.int 1000)])) [])), .ifs (.or (.cmp .NotEq (.var 10) (.rev true (.blt .sorted true [.var 10]))) (.cmp .NotEq (.sub (.var 10) (.lit (.int 0))) (.blt .maxL true [.bin .Add true (.att (.var 2) "front") (.att (.var 2) "period")]))) [.ret false (.lit (.bl false))] [], .ifs (.blt .any true [.lc true [11] (.cmp .Lt (.att (.call false "least_rate" [.own false "__add__" (.var 2) [.var 3], .var 11]) "number") (.att (.call false "least_rate" [.var 2, .var 11]) "number")) (.mk (.nm 11) (.seq (.tup [.lit (.int 0), .lit (.int 3), .lit (.int 9)])) [])]) [.ret false (.lit (.bl false))] [], .ifs (.not (.cmp .GtE (.bin .Mult true (.blt .int true [.sub (.var 10) (.neg (.lit (.int 1)))]) (.blt .len true [.att (.var 2) "period"])) (.blt .sum true [.att (.var 2) "period"]))) [.ret false (.lit (.bl false))] [], .for (.tp [.nm 11, .nm 12]) (.zip (.tup [.lit (.int 0), .lit (.int 1), .lit (.int 5), .lit (.int 20), .lit (.int 1000)]) (.var 10)) [.ifs (.not (.call false "_law_is_at_most" [.call false "_law_lag" [.var 2, .mk true "Times" [.lst true [], .lst true [.var 12]]], .var 11])) [.ret false (.lit (.bl false))] []], .asg (.nm 13) (.call false "least_keeping" [.var 2, .lst true [.var 4, .var 5]]), .asg (.nm 14) (.lc true [15] (.call false "least_keeping" [.var 2, .lst true [.var 15]]) (.mk (.nm 15) (.seq (.tup [.var 4, .var 5])) [])), .ifs (.cmp .NotEq (.own false "__bool__" (.var 13) []) (.blt .all true [.lc true [15] (.own false "__bool__" (.var 15) []) (.mk (.nm 15) (.seq (.var 14)) [])])) [.ret false (.lit (.bl false))] [], .ifs (.and (.own false "__bool__" (.var 13) []) (.or (.cmp .NotEq (.att (.var 13) "rows") (.blt .maxL true [.lc true [15] (.att (.var 15) "rows") (.mk (.nm 15) (.seq (.var 14)) [])])) (.cmp .Lt (.att (.var 13) "rows") (.var 7)))) [.ret false (.lit (.bl false))] [], .ifs (.and (.own false "__bool__" (.var 13) []) (.and (.cmp .Gt (.att (.var 13) "rows") (.bin .Add true (.var 7) (.blt .maxL true [.bin .Add true (.att (.var 2) "front") (.att (.var 2) "period")]))) (.cmp .Eq (.att (.var 13) "group") (.lit (.int 0))))) [.ret false (.lit (.bl false))] [], .ret false (.or (.not (.own false "__bool__" (.var 13) [])) (.cmp .Eq (.att (.call false "least_keeping" [.var 2, .lst true [.var 5, .var 4]]) "rows") (.att (.var 13) "rows")))] }
def dz_law : DefZ := { d := { at_ := (PySem.Str.ofString "law", none), name := PySem.Str.ofString "law", qual := PySem.Str.ofString "law", params := L2.defArgs (top 45), body := L2.defBody (top 45), scope := L2.defScope (top 45) }, N := [PySem.Str.ofString "_law_script", PySem.Str.ofString "_law_draw", PySem.Str.ofString "_law_fed", PySem.Str.ofString "_law_more", PySem.Str.ofString "_law_read", PySem.Str.ofString "_law_other", PySem.Str.ofString "_law_twice", PySem.Str.ofString "_law_lag_here", PySem.Str.ofString "_law_first", PySem.Str.ofString "_law_second", PySem.Str.ofString "_law_rates", PySem.Str.ofString "_law_most", PySem.Str.ofString "_law_rate", PySem.Str.ofString "_law_both", PySem.Str.ofString "_law_alone", PySem.Str.ofString "_law_one"], ps := [PySem.Str.ofString "_law_script"] }
def funs : List (String × ZFun) := [("is_natural", z_is_natural), ("are_numbers", z_are_numbers), ("common", z_common), ("number_at", z_number_at), ("summed", z_summed), ("Times.__init__", z_Times___init__), ("Times.__add__", z_Times___add__), ("Times.at", z_Times_at), ("check_times", z_check_times), ("joint", z_joint), ("Lag.__init__", z_Lag___init__), ("Lag.__bool__", z_Lag___bool__), ("Growing.__init__", z_Growing___init__), ("Growing.__bool__", z_Growing___bool__), ("lags", z_lags), ("growth_of", z_growth_of), ("greatest_lag", z_greatest_lag), ("Keep.__init__", z_Keep___init__), ("Keep.__bool__", z_Keep___bool__), ("check_groups", z_check_groups), ("needs", z_needs), ("least_keeping", z_least_keeping), ("first_with", z_first_with), ("Rate.__init__", z_Rate___init__), ("check_bound", z_check_bound), ("steady_lags", z_steady_lags), ("stays", z_stays), ("least_rate", z_least_rate), ("first_beyond", z_first_beyond), ("_law_number", z__law_number), ("_law_take", z__law_take), ("_law_times", z__law_times), ("_law_lag", z__law_lag), ("_law_is_at_most", z__law_is_at_most), ("law", z_law)]
def tab : List (String × DefZ) := [("is_natural", dz_is_natural), ("are_numbers", dz_are_numbers), ("common", dz_common), ("number_at", dz_number_at), ("summed", dz_summed), ("Times.__init__", dz_Times___init__), ("Times.__add__", dz_Times___add__), ("Times.at", dz_Times_at), ("check_times", dz_check_times), ("joint", dz_joint), ("Lag.__init__", dz_Lag___init__), ("Lag.__bool__", dz_Lag___bool__), ("Growing.__init__", dz_Growing___init__), ("Growing.__bool__", dz_Growing___bool__), ("lags", dz_lags), ("growth_of", dz_growth_of), ("greatest_lag", dz_greatest_lag), ("Keep.__init__", dz_Keep___init__), ("Keep.__bool__", dz_Keep___bool__), ("check_groups", dz_check_groups), ("needs", dz_needs), ("least_keeping", dz_least_keeping), ("first_with", dz_first_with), ("Rate.__init__", dz_Rate___init__), ("check_bound", dz_check_bound), ("steady_lags", dz_steady_lags), ("stays", dz_stays), ("least_rate", dz_least_rate), ("first_beyond", dz_first_beyond), ("_law_number", dz__law_number), ("_law_take", dz__law_take), ("_law_times", dz__law_times), ("_law_lag", dz__law_lag), ("_law_is_at_most", dz__law_is_at_most), ("law", dz_law)]
def locs : List (String × (Str × Option Str)) := [("is_natural", (PySem.Str.ofString "is_natural", none)), ("are_numbers", (PySem.Str.ofString "are_numbers", none)), ("common", (PySem.Str.ofString "common", none)), ("number_at", (PySem.Str.ofString "number_at", none)), ("summed", (PySem.Str.ofString "summed", none)), ("Times.__init__", (PySem.Str.ofString "Times", some (PySem.Str.ofString "__init__"))), ("Times.__add__", (PySem.Str.ofString "Times", some (PySem.Str.ofString "__add__"))), ("Times.at", (PySem.Str.ofString "Times", some (PySem.Str.ofString "at"))), ("check_times", (PySem.Str.ofString "check_times", none)), ("joint", (PySem.Str.ofString "joint", none)), ("Lag.__init__", (PySem.Str.ofString "Lag", some (PySem.Str.ofString "__init__"))), ("Lag.__bool__", (PySem.Str.ofString "Lag", some (PySem.Str.ofString "__bool__"))), ("Growing.__init__", (PySem.Str.ofString "Growing", some (PySem.Str.ofString "__init__"))), ("Growing.__bool__", (PySem.Str.ofString "Growing", some (PySem.Str.ofString "__bool__"))), ("lags", (PySem.Str.ofString "lags", none)), ("growth_of", (PySem.Str.ofString "growth_of", none)), ("greatest_lag", (PySem.Str.ofString "greatest_lag", none)), ("Keep.__init__", (PySem.Str.ofString "Keep", some (PySem.Str.ofString "__init__"))), ("Keep.__bool__", (PySem.Str.ofString "Keep", some (PySem.Str.ofString "__bool__"))), ("check_groups", (PySem.Str.ofString "check_groups", none)), ("needs", (PySem.Str.ofString "needs", none)), ("least_keeping", (PySem.Str.ofString "least_keeping", none)), ("first_with", (PySem.Str.ofString "first_with", none)), ("Rate.__init__", (PySem.Str.ofString "Rate", some (PySem.Str.ofString "__init__"))), ("check_bound", (PySem.Str.ofString "check_bound", none)), ("steady_lags", (PySem.Str.ofString "steady_lags", none)), ("stays", (PySem.Str.ofString "stays", none)), ("least_rate", (PySem.Str.ofString "least_rate", none)), ("first_beyond", (PySem.Str.ofString "first_beyond", none)), ("_law_number", (PySem.Str.ofString "_law_number", none)), ("_law_take", (PySem.Str.ofString "_law_take", none)), ("_law_times", (PySem.Str.ofString "_law_times", none)), ("_law_lag", (PySem.Str.ofString "_law_lag", none)), ("_law_is_at_most", (PySem.Str.ofString "_law_is_at_most", none)), ("law", (PySem.Str.ofString "law", none))]
def loc : Zi.Loc := fun f => (locs.lookup f).getD ("", none)
def P (L : Nat) : ZP where
  funs := funs
  gl := ["is_natural", "are_numbers", "common", "number_at", "summed", "check_times", "joint", "lags", "growth_of", "greatest_lag", "check_groups", "needs", "least_keeping", "first_with", "check_bound", "steady_lags", "stays", "least_rate", "first_beyond", "_law_number", "_law_take", "_law_times", "_law_lag", "_law_is_at_most", "law"]
  cls := [("Times", { bases := ["Times"], meths := [("__init__", "Times.__init__"), ("__add__", "Times.__add__"), ("at", "Times.at")], flds := ["front", "period"], cons := [] }),
    ("Lag", { bases := ["Lag", "Good", "Evidence"], meths := [("__init__", "Lag.__init__"), ("__bool__", "Lag.__bool__")], flds := ["number", "tick"], cons := [] }),
    ("Growing", { bases := ["Growing", "Bad", "Evidence"], meths := [("__init__", "Growing.__init__"), ("__bool__", "Growing.__bool__")], flds := ["growth", "period"], cons := [] }),
    ("Keep", { bases := ["Keep", "Good", "Evidence"], meths := [("__init__", "Keep.__init__"), ("__bool__", "Keep.__bool__")], flds := ["rows", "tick", "group"], cons := [] }),
    ("Rate", { bases := ["Rate", "Evidence"], meths := [("__init__", "Rate.__init__")], flds := ["number", "tick"], cons := [] })]
  xs := []
  gv := [("MOST_NUMBER", .int 100), ("MOST_TICKS", .int 24), ("MOST_LAG", .int 1000)]
  lim := L
  ini := ["Times.__init__", "check_times", "Lag.__init__", "Growing.__init__", "Keep.__init__", "check_groups", "Rate.__init__", "check_bound"]
end K56
set_option maxHeartbeats 4000000
/-! K56M: queues, plainly. -/
namespace K56
def qx (x : Int) (d : Nat → Int) : Nat → Int
  | 0 => x
  | t + 1 => max 0 (qx x d t + d t)
abbrev qs (d : Nat → Int) (t : Nat) : Int := qx 0 d t
def wd (d : Nat → Int) : Nat → Int
  | 0 => 0
  | t + 1 => wd d t + d t
theorem qs_nn (d : Nat → Int) : ∀ t, 0 ≤ qs d t
  | 0 => Int.le_refl _
  | t + 1 => by show 0 ≤ max 0 _; omega
theorem qs_mono {d e : Nat → Int} (h : ∀ t, d t ≤ e t) : ∀ t, qs d t ≤ qs e t
  | 0 => Int.le_refl _
  | t + 1 => by
    have := qs_mono h t
    have := h t
    show max 0 (qs d t + d t) ≤ max 0 (qs e t + e t)
    omega
theorem qs_congr {d e : Nat → Int} (h : ∀ t, d t = e t) (t : Nat) : qs d t = qs e t := Int.le_antisymm (qs_mono (fun t => Int.le_of_eq (h t)) t) (qs_mono (fun t => Int.le_of_eq (h t).symm) t)
theorem qs_add {c d e : Nat → Int} (h : ∀ t, c t = d t + e t) : ∀ t, qs c t ≤ qs d t + qs e t
  | 0 => Int.le_refl _
  | t + 1 => by
    have := qs_add h t
    have := h t
    show max 0 (qs c t + c t) ≤ max 0 (qs d t + d t) + max 0 (qs e t + e t)
    omega
theorem qx_shift (x : Int) (d : Nat → Int) (hx : 0 ≤ x) : ∀ k, qx x d k = max (x + wd d k) (qs d k)
  | 0 => by show x = max (x + 0) 0; omega
  | k + 1 => by
    have := qx_shift x d hx k
    have h2 := qs_nn d k
    show max 0 (qx x d k + d k) = max (x + (wd d k + d k)) (max 0 (qs d k + d k))
    unfold qs at *
    omega
theorem qs_from (d : Nat → Int) (t : Nat) : ∀ k, qs d (t + k) = qx (qs d t) (fun i => d (t + i)) k
  | 0 => rfl
  | k + 1 => by
    show max 0 (qs d (t + k) + d (t + k)) = max 0 (qx (qs d t) (fun i => d (t + i)) k + d (t + k))
    rw [qs_from d t k]
theorem wd_congr {d e : Nat → Int} (h : ∀ t, d t = e t) (k : Nat) : wd d k = wd e k := by
  have : d = e := funext h
  rw [this]
theorem wd_add (d : Nat → Int) (a : Nat) : ∀ b, wd d (a + b) = wd d a + wd (fun i => d (a + i)) b
  | 0 => by show wd d a = wd d a + 0; omega
  | b + 1 => by
    show wd d (a + b) + d (a + b) = wd d a + (wd (fun i => d (a + i)) b + d (a + b))
    rw [wd_add d a b]; omega
theorem wd_sub (d e : Nat → Int) : ∀ k, wd (fun t => d t - e t) k = wd d k - wd e k
  | 0 => rfl
  | k + 1 => by
    show wd (fun t => d t - e t) k + (d k - e k) = (wd d k + d k) - (wd e k + e k)
    rw [wd_sub d e k]; omega
/-- from F on the numbers come again after p -/
def Per (d : Nat → Int) (F p : Nat) : Prop := ∀ t, F ≤ t → d (t + p) = d t
theorem Per.mul {d : Nat → Int} {F p : Nat} (h : Per d F p) : ∀ k, Per d F (p * k)
  | 0 => fun t _ => rfl
  | k + 1 => fun t ht => by
    rw [Nat.mul_succ, ← Nat.add_assoc, h (t + p * k) (by omega)]
    exact h.mul k t ht
theorem Per.mono {d : Nat → Int} {F G p : Nat} (h : Per d F p) (hG : F ≤ G) : Per d G p := fun t ht => h t (Nat.le_trans hG ht)
theorem Per.sub {d e : Nat → Int} {F p : Nat} (h : Per d F p) (g : Per e F p) : Per (fun t => d t - e t) F p := fun t ht => by
  show d (t + p) - e (t + p) = _
  rw [h t ht, g t ht]
/-- a window's sum does not hang on where it begins -/
theorem Per.wd_const {d : Nat → Int} {F p : Nat} (h : Per d F p) : ∀ k, wd (fun i => d (F + k + i)) p = wd (fun i => d (F + i)) p
  | 0 => rfl
  | k + 1 => by
    rw [← h.wd_const k]
    have e1 := wd_add (fun i => d (F + k + i)) 1 p
    have e2 := wd_add (fun i => d (F + k + i)) p 1
    have e3 : wd (fun i => d (F + k + (1 + i))) p = wd (fun i => d (F + (k + 1) + i)) p := wd_congr (fun t => by congr 1; omega) p
    have e4 : wd (fun i => d (F + k + i)) 1 = d (F + k) := by show (0 : Int) + d (F + k + 0) = _; simp
    have e5 : wd (fun i => d (F + k + (p + i))) 1 = d (F + k) := by
      show (0 : Int) + d (F + k + (p + 0)) = _
      rw [Int.zero_add, Nat.add_zero]
      exact h (F + k) (by omega)
    rw [Nat.add_comm p 1] at e2
    rw [e3, e4] at e1
    rw [e5] at e2
    rw [e2] at e1
    omega
theorem Per.wd_mul {d : Nat → Int} {F p : Nat} (h : Per d F p) (t : Nat) (ht : F ≤ t) : ∀ k, wd (fun i => d (t + i)) (p * k) = k * wd (fun i => d (F + i)) p
  | 0 => by simp [wd]
  | k + 1 => by
    rw [Nat.mul_succ, wd_add, h.wd_mul t ht k]
    have := h.wd_const (t + p * k - F)
    rw [show F + (t + p * k - F) = t + p * k by omega] at this
    rw [wd_congr (fun i => by rw [Nat.add_assoc]) p] at this
    rw [this, Int.natCast_add, Int.add_mul]; omega
section
variable {d : Nat → Int} {F p : Nat} {S : Int}
theorem q_step (h : Per d F p) (hS : ∀ t, F ≤ t → wd (fun i => d (t + i)) p = S) (t : Nat) (ht : F ≤ t) : qs d (t + p) = max (qs d t + S) (qs (fun i => d (t + i)) p) := by
  rw [qs_from, qx_shift _ _ (qs_nn d t), hS t ht]
theorem q_down (h : Per d F p) (hS : ∀ t, F ≤ t → wd (fun i => d (t + i)) p = S) (h0 : S ≤ 0) (t : Nat) (ht : F + p ≤ t) : qs d (t + p) ≤ qs d t := by
  obtain ⟨u, rfl⟩ : ∃ u, t = u + p := ⟨t - p, by omega⟩
  have hu : F ≤ u := by omega
  have e1 := q_step h hS u hu
  have e2 := q_step h hS (u + p) (by omega)
  have e3 : qs (fun i => d (u + p + i)) p = qs (fun i => d (u + i)) p := qs_congr (fun i => by
    have := h (u + i) (by omega)
    rw [← this]; congr 1; omega) p
  rw [e3] at e2
  omega
/-- the first F + 2p lags tell the greatest one -/
theorem q_sup (h : Per d F p) (hp : 0 < p) (hS : ∀ t, F ≤ t → wd (fun i => d (t + i)) p = S) (h0 : S ≤ 0) : ∀ (n t : Nat), t ≤ n → ∃ u, u < F + 2 * p ∧ qs d t ≤ qs d (u + 1)
  | n, 0, _ => ⟨0, by omega, qs_nn d 1⟩
  | 0, t + 1, ht => by omega
  | n + 1, t + 1, ht => by
    by_cases c : t < F + 2 * p
    · exact ⟨t, c, Int.le_refl _⟩
    · obtain ⟨u, h1, h2⟩ := q_sup h hp hS h0 n (t + 1 - p) (by omega)
      have := q_down h hS h0 (t + 1 - p) (by omega)
      rw [show t + 1 - p + p = t + 1 by omega] at this
      exact ⟨u, h1, Int.le_trans this h2⟩
theorem q_up (h : Per d F p) (hS : ∀ t, F ≤ t → wd (fun i => d (t + i)) p = S) (h0 : 1 ≤ S) : ∀ k : Nat, (k : Int) ≤ qs d (F + p * k)
  | 0 => qs_nn d _
  | k + 1 => by
    have := q_up h hS h0 k
    have e := q_step h hS (F + p * k) (by omega)
    rw [Nat.mul_succ, ← Nat.add_assoc, e, Int.natCast_add]
    omega
end
/-! ### greatest lags -/
def LagOf (d : Nat → Int) : Option Int → Prop
  | none => ∀ B : Int, ∃ t, B < qs d t
  | some l => (∀ t, qs d t ≤ l) ∧ ∃ t, qs d t = l
def AtMost : Option Int → Option Int → Prop
  | _, none => True
  | some a, some b => a ≤ b
  | none, some _ => False
theorem LagOf.eq {d e : Nat → Int} {o o' : Option Int} (h : LagOf d o) (g : LagOf e o') (q : ∀ t, d t = e t) : o = o' := by
  have qe : d = e := funext q
  subst qe
  cases o with
  | none => cases o' with
    | none => rfl
    | some l =>
      obtain ⟨t, ht⟩ := h l
      have := g.1 t
      omega
  | some a => cases o' with
    | none =>
      obtain ⟨t, ht⟩ := g a
      have := h.1 t
      omega
    | some l =>
      obtain ⟨t, ht⟩ := h.2
      obtain ⟨u, hu⟩ := g.2
      have := g.1 t
      have := h.1 u
      congr 1; omega
theorem LagOf.le {d e : Nat → Int} {o o' : Option Int} (h : LagOf d o) (g : LagOf e o') (q : ∀ t, d t ≤ e t) : AtMost o o' := by
  cases o' with
  | none => cases o <;> exact True.intro
  | some b => cases o with
    | none =>
      obtain ⟨t, ht⟩ := h b
      have := g.1 t
      have := qs_mono q t
      show False
      omega
    | some a =>
      obtain ⟨t, ht⟩ := h.2
      have := g.1 t
      have := qs_mono q t
      show a ≤ b
      omega
theorem LagOf.add {c d e : Nat → Int} {o : Option Int} {a b : Int} (h : LagOf c o) (h1 : LagOf d (some a)) (h2 : LagOf e (some b)) (q : ∀ t, c t = d t + e t) : AtMost o (some (a + b)) := by
  cases o with
  | none =>
    obtain ⟨t, ht⟩ := h (a + b)
    have := qs_add q t
    have := h1.1 t
    have := h2.1 t
    show False
    omega
  | some l =>
    obtain ⟨t, ht⟩ := h.2
    have := qs_add q t
    have := h1.1 t
    have := h2.1 t
    show l ≤ a + b
    omega
theorem LagOf.le_of {d : Nat → Int} {o : Option Int} {m : Int} (h : LagOf d o) (q : ∀ t, qs d t ≤ m) : AtMost o (some m) := by
  cases o with
  | none =>
    obtain ⟨t, ht⟩ := h m
    have := q t
    show False
    omega
  | some l =>
    obtain ⟨t, ht⟩ := h.2
    have := q t
    show l ≤ m
    omega
/-! ### rows of numbers -/
theorem foldl_max (l : List Int) : ∀ a : Int, a ≤ l.foldl max a ∧ (∀ x ∈ l, x ≤ l.foldl max a) ∧ (l.foldl max a = a ∨ l.foldl max a ∈ l) := by
  induction l with
  | nil => intro a; exact ⟨Int.le_refl _, (fun x hx => nomatch hx), .inl rfl⟩
  | cons b r ih =>
    intro a
    obtain ⟨h1, h2, h3⟩ := ih (max a b)
    rw [List.foldl_cons]
    refine ⟨by omega, fun x hx => ?_, ?_⟩
    · rcases List.mem_cons.mp hx with rfl | hx
      · omega
      · exact h2 x hx
    · rcases h3 with h3 | h3
      · by_cases c : a ≤ b
        · right; rw [h3, show max a b = b by omega]; exact List.mem_cons_self
        · left; omega
      · exact .inr (List.mem_cons_of_mem _ h3)
def mx : List Int → Int
  | [] => 0
  | a :: l => l.foldl max a
theorem mx_mem {l : List Int} (h : l ≠ []) : mx l ∈ l := by
  cases l with
  | nil => exact (h rfl).elim
  | cons a l =>
    rcases (foldl_max l a).2.2 with e | e
    · show l.foldl max a ∈ a :: l
      rw [e]; exact List.mem_cons_self
    · exact List.mem_cons_of_mem _ e
theorem mx_le {l : List Int} {x : Int} (h : x ∈ l) : x ≤ mx l := by
  cases l with
  | nil => cases h
  | cons a l =>
    rcases List.mem_cons.mp h with rfl | h
    · exact (foldl_max l x).1
    · exact (foldl_max l a).2.1 x h
/-! ### timetables -/
def atT (fr pe : List Int) (t : Nat) : Int := if t < fr.length then fr[t]?.getD 0 else pe[(t - fr.length) % pe.length]?.getD 0
theorem atT_per (fr pe : List Int) : Per (atT fr pe) fr.length pe.length := fun t ht => by
  unfold atT
  rw [if_neg (by omega), if_neg (by omega), show t + pe.length - fr.length = t - fr.length + pe.length by omega, Nat.add_mod_right]
theorem wd_take (l : List Int) : ∀ k, k ≤ l.length → wd (fun i => l[i]?.getD 0) k = (l.take k).sum
  | 0, _ => rfl
  | k + 1, h => by
    show wd (fun i => l[i]?.getD 0) k + l[k]?.getD 0 = _
    rw [wd_take l k (by omega), List.take_add_one, List.sum_append, List.getElem?_eq_getElem (by omega)]
    simp
theorem atT_window (fr pe : List Int) : wd (fun i => atT fr pe (fr.length + i)) pe.length = pe.sum := by
  have : ∀ k, k ≤ pe.length → wd (fun i => atT fr pe (fr.length + i)) k = wd (fun i => pe[i]?.getD 0) k := by
    intro k
    induction k with
    | zero => intro _; rfl
    | succ k ih =>
      intro h
      show _ + _ = _ + _
      rw [ih (by omega)]
      congr 1
      show atT fr pe (fr.length + k) = _
      unfold atT
      rw [if_neg (by omega), show fr.length + k - fr.length = k by omega, Nat.mod_eq_of_lt (by omega)]
  rw [this _ (Nat.le_refl _), wd_take pe _ (Nat.le_refl _), List.take_length]
theorem atT_wd (fr pe : List Int) (t k : Nat) (ht : fr.length ≤ t) : wd (fun i => atT fr pe (t + i)) (pe.length * k) = k * pe.sum := by
  rw [(atT_per fr pe).wd_mul t ht k, atT_window]
section
variable (f1 p1 f2 p2 : List Int) (P : Nat)
def dif (f1 p1 f2 p2 : List Int) : Nat → Int := fun t => atT f1 p1 t - atT f2 p2 t
def gro (p1 p2 : List Int) (P : Nat) : Int := ((P / p1.length : Nat) : Int) * p1.sum - ((P / p2.length : Nat) : Int) * p2.sum
def lagL (d : Nat → Int) (M : Nat) : List Int := (List.range M).map fun t => qs d (t + 1)
variable {f1 p1 f2 p2 : List Int} {P : Nat} (h1 : p1 ≠ []) (h2 : p2 ≠ []) (d1 : p1.length ∣ P) (d2 : p2.length ∣ P) (hP : 0 < P)
include h1 h2 d1 d2 hP
theorem dif_per : Per (dif f1 p1 f2 p2) (max f1.length f2.length) P := by
  obtain ⟨a, rfl⟩ := d1
  obtain ⟨b, hb⟩ := d2
  refine Per.sub (((atT_per f1 p1).mul a).mono (by omega)) ?_
  rw [hb]
  exact ((atT_per f2 p2).mul b).mono (by omega)
theorem dif_wd (t : Nat) (ht : max f1.length f2.length ≤ t) : wd (fun i => dif f1 p1 f2 p2 (t + i)) P = gro p1 p2 P := by
  obtain ⟨a, ha⟩ := d1
  obtain ⟨b, hb⟩ := d2
  have a1 : 0 < p1.length := List.length_pos_iff.mpr h1
  have a2 : 0 < p2.length := List.length_pos_iff.mpr h2
  have e1 := atT_wd f1 p1 t a (by omega)
  have e2 := atT_wd f2 p2 t b (by omega)
  unfold gro
  rw [← ha] at e1
  rw [← hb] at e2
  show wd (fun i => atT f1 p1 (t + i) - atT f2 p2 (t + i)) P = _
  rw [wd_sub, e1, e2]
  rw [show P / p1.length = a by rw [ha]; exact Nat.mul_div_cancel_left _ a1, show P / p2.length = b by rw [hb]; exact Nat.mul_div_cancel_left _ a2]
theorem lag_none (g : 0 < gro p1 p2 P) : LagOf (dif f1 p1 f2 p2) none := fun B => by
  have := q_up (dif_per (f1 := f1) (f2 := f2) h1 h2 d1 d2 hP) (dif_wd h1 h2 d1 d2 hP) (by omega) (B.toNat + 1)
  refine ⟨max f1.length f2.length + P * (B.toNat + 1), ?_⟩
  omega
theorem lag_some (g : gro p1 p2 P ≤ 0) : LagOf (dif f1 p1 f2 p2) (some (mx (lagL (dif f1 p1 f2 p2) (max f1.length f2.length + 2 * P)))) := by
  refine ⟨fun t => ?_, ?_⟩
  · obtain ⟨u, hu, h⟩ := q_sup (dif_per h1 h2 d1 d2 hP) hP (dif_wd h1 h2 d1 d2 hP) g t t (Nat.le_refl _)
    refine Int.le_trans h (mx_le (List.mem_map.mpr ⟨u, List.mem_range.mpr hu, rfl⟩))
  · have : lagL (dif f1 p1 f2 p2) (max f1.length f2.length + 2 * P) ≠ [] := by
      intro e
      have := congrArg List.length e
      unfold lagL at this
      rw [List.length_map, List.length_range, List.length_nil] at this
      omega
    obtain ⟨u, _, e⟩ := List.mem_map.mp (mx_mem this)
    exact ⟨u + 1, e⟩
end
end K56
set_option maxHeartbeats 4000000
namespace K56
open PySem Zi
section
variable (L b : Nat) (c : Nat → String → List D → MH → R D) (m : MH) (ρ : Ev)
@[simp] theorem ty1 : isTy (ecOf (P L) b c).sub "int" ["int"] = true := rfl
@[simp] theorem ty2 : isTy (ecOf (P L) b c).sub "int" ["bool"] = false := rfl
@[simp] theorem ty3 : isTy (ecOf (P L) b c).sub "list" ["list", "tuple"] = true := rfl
@[simp] theorem ty4 : isTy (ecOf (P L) b c).sub "Times" ["Times"] = true := rfl
@[simp] theorem kn1 : knownT (ecOf (P L) b c).cls "int" = true := rfl
@[simp] theorem kn2 : knownT (ecOf (P L) b c).cls "list" = true := rfl
@[simp] theorem kn3 : knownT (ecOf (P L) b c).cls "Times" = true := rfl
@[simp] theorem to1 (i : Int) : tyOf m (.int i) = some "int" := rfl
@[simp] theorem to2 (ds : List D) : tyOf m (.lst ds) = some "list" := rfl
@[simp] theorem to3 (fs : Fs) : tyOf m (.ins "Times" fs) = some "Times" := rfl
@[simp] theorem ec_call : (ecOf (P L) b c).call = c := rfl
@[simp] theorem ec_base : (ecOf (P L) b c).base = b := rfl
@[simp] theorem ec_lim : (ecOf (P L) b c).lim = L := rfl
@[simp] theorem sq_lst (ds : List D) : seqD m (.lst ds) = some ds := rfl
@[simp] theorem lk_lst (ds : List D) : lockOf m (.lst ds) = [] := rfl
theorem mkL_ok (ds : List D) (h : ds.length ≤ 16777216) : mkL true ds m = .ok (.lst ds) m := by
  unfold mkL
  rw [if_pos (show ds.length ≤ SZ from h)]; rfl
theorem sub_ints {l : List Int} {t : Nat} (h : t < l.length) : subD (.lst (l.map D.int)) (.int t) m = some (.int (l[t]?.getD 0)) := by
  show ((ixOf (l.map D.int).length t).bind fun j => (l.map D.int)[j]?) = _
  have : ixOf (l.map D.int).length t = some t := by
    unfold ixOf
    rw [List.length_map, if_pos (by omega), if_pos (by omega)]
    simp
  rw [this, Option.bind_some, List.getElem?_map, List.getElem?_eq_getElem h]
  rfl
theorem mod_ok (i j : Int) (h : 0 < j) (fz : Bool) : binD .Mod fz (.int i) (.int j) m = .ok (.int (i % j)) m := by
  show (if 0 < j then _ else _) = _
  rw [if_pos h]
theorem fdiv_ok (i j : Int) (h : 0 < j) (h2 : j < 1000000000) (fz : Bool) : binD .FloorDiv fz (.int i) (.int j) m = .ok (.int (i / j)) m := by
  show (if 0 < j ∧ natB 1073741823 j = true then _ else _) = _
  rw [if_pos ⟨h, natB_ok.mpr (by omega)⟩]
theorem mul_ok (i j : Int) (h0 : -1000000000 < i) (h : i < 1000000000) (fz : Bool) : binD .Mult fz (.int i) (.int j) m = .ok (.int (i * j)) m := by
  show (if mulOk i j = true then _ else _) = _
  rw [if_pos]
  unfold mulOk
  rw [Bool.or_eq_true, natB_ok, natB_ok]
  left; omega
theorem mul_ok2 (i j : Int) (h0 : -1000000000 < j) (h : j < 1000000000) (fz : Bool) : binD .Mult fz (.int i) (.int j) m = .ok (.int (i * j)) m := by
  show (if mulOk i j = true then _ else _) = _
  rw [if_pos]
  unfold mulOk
  rw [Bool.or_eq_true, natB_ok, natB_ok]
  right; omega
end
def tm (fr pe : List Int) : D := .ins "Times" [("front", .lst (fr.map .int)), ("period", .lst (pe.map .int))]
section
variable (L b : Nat) (c : Nat → String → List D → MH → R D) (m : MH) (ρ : Ev) (fr pe : List Int)
@[simp] theorem to4 : tyOf m (tm fr pe) = some "Times" := rfl
@[simp] theorem att_fr : attR (ecOf (P L) b c) (tm fr pe) "front" m = .ok (.lst (fr.map .int)) m := rfl
@[simp] theorem att_pe : attR (ecOf (P L) b c) (tm fr pe) "period" m = .ok (.lst (pe.map .int)) m := rfl
@[simp] theorem met_at (kp : Bool) (xs : MH → R (List D)) : metR (ecOf (P L) b c) kp "at" (tm fr pe) xs m = (xs m).bind fun xs m => gcR m.length kp (c m.length "Times.at" (tm fr pe :: xs) m) := rfl
theorem ints_pure : ∀ l : List Int, pures (l.map D.int) = true
  | [] => rfl
  | _ :: l => ints_pure l
@[simp] theorem tm_pure : pure (tm fr pe) = true := by
  show (pures (fr.map D.int) && (pures (pe.map D.int) && true)) = true
  rw [ints_pure, ints_pure]; rfl
end
variable {L : Nat} (hL : 100000 ≤ L)
include hL
theorem nat_ok (n : Nat) (i k : Int) (h0 : 0 ≤ i) (h1 : i ≤ k) : Ret (P L) (n + 1) "is_natural" [.int i, .int k] (.bl true) := fun m => ⟨[], by
  rw [callF_succ (zf := z_is_natural) rfl rfl rfl rfl]
  simp [z_is_natural, h0, h1]⟩
theorem number_at_ok (n : Nat) (fr pe : List Int) (t : Nat) (hp : pe ≠ []) : Ret (P L) (n + 1) "number_at" [.lst (fr.map D.int), .lst (pe.map D.int), .int t] (.int (atT fr pe t)) := fun m => ⟨[], by
  rw [callF_succ (zf := z_number_at) rfl rfl rfl rfl]
  have h0 : 0 < pe.length := List.length_pos_iff.mpr hp
  by_cases h : t < fr.length
  · simp [z_number_at, h, sub_ints, atT]
  · have e : ((t : Int) - fr.length) % pe.length = (((t - fr.length) % pe.length : Nat) : Int) := by
      rw [Int.natCast_emod, Int.ofNat_sub (by omega)]
    have h3 : subD (.lst (pe.map D.int)) (.int (((t : Int) - fr.length) % pe.length)) m = some (.int (pe[(t - fr.length) % pe.length]?.getD 0)) := by
      rw [e]; exact sub_ints m (Nat.mod_lt (t - fr.length) h0)
    simp [z_number_at, h, mod_ok _ _ _ (show (0 : Int) < pe.length by omega), h3, atT]⟩
theorem check_times_ok (n : Nat) (fr pe : List Int) : Ret (P L) (n + 1) "check_times" [tm fr pe] .non := fun m => ⟨[], by
  rw [callF_succ (zf := z_check_times) rfl rfl rfl rfl]
  simp [z_check_times]⟩
theorem are_numbers_ok (n : Nat) (l : List Int) (h : ∀ i ∈ l, 0 ≤ i ∧ i ≤ 100) (hl : l.length ≤ 24) : Ret (P L) (n + 2) "are_numbers" [.lst (l.map D.int)] (.bl true) := fun m => ⟨[], by
  rw [callF_succ (zf := z_are_numbers) rfl rfl rfl rfl]
  have h1 : ¬ (24 : Int) < l.length := by omega
  have h2 : compL (sameB []) (lcTurn (ecOf (P L) m.length (callF (P L) (n + 1))) [1] (T.nm 1) [] (Z.call false "is_natural" [Z.var 1, Z.glo "MOST_NUMBER" (D.int 100)]) [some (D.lst (List.map D.int l)), none]) (l.map D.int) [] m = .ok ([] ++ (l.map D.int).map fun _ => D.bl true) m := by
    refine compL_map rfl _ _ _ (fun d hd => ?_) (by rw [List.length_map]; show 0 + l.length ≤ 16777216; omega)
    obtain ⟨i, hi, rfl⟩ := List.mem_map.mp hd
    have := gc_ret (nat_ok hL n i 100 (h i hi).1 (h i hi).2) rfl m
    simp [lcTurn, wipeE, this]
  have e : ((l.map D.int).map fun _ => D.bl true) = (l.map fun _ => true).map D.bl := by simp
  have e2 : ((l.map fun _ => true).all id) = true := by simp
  rw [List.nil_append, e] at h2
  have h3 := mkL_ok m _ (show ((l.map fun _ => true).map D.bl).length ≤ 16777216 by simp; omega)
  simp [z_are_numbers, h1, h2, h3, -List.map_map]⟩
theorem at_ok (n : Nat) (fr pe : List Int) (t : Nat) (hp : pe ≠ []) : Ret (P L) (n + 2) "Times.at" [tm fr pe, .int t] (.int (atT fr pe t)) := fun m => ⟨[], by
  rw [callF_succ (zf := z_Times_at) rfl rfl rfl rfl]
  simp [z_Times_at, gc_ret (number_at_ok hL n fr pe t hp) rfl]⟩
/-! ### common -/
theorem common_ok (n : Nat) (a b l : Nat) (ha : 0 < a) (hb : 0 < b) (h1 : a < 1000) (h2 : b < 1000) (hl : l = Nat.lcm a b) : Ret (P L) (n + 1) "common" [.int a, .int b] (.int l) := fun m => ⟨[], by
  rw [callF_succ (zf := z_common) rfl rfl rfl rfl]
  obtain ⟨g, hgd⟩ : ∃ g, g = Nat.gcd a b := ⟨_, rfl⟩
  have hw : ex (ecOf (P L) m.length (callF (P L) n)) (.whl (.cmp .NotEq (.var 3) (.lit (.int 0))) [.asg (.tp [.nm 2, .nm 3]) (.tup [.var 3, .bin .Mod true (.var 2) (.var 3)])]) [some (.int a), some (.int b), some (.int a), some (.int b)] m = .ok (.nx [some (.int a), some (.int b), some (.int g), some (.int 0)]) m := by
    rw [ex_whl, ec_lim]
    have hF2 : b < L := by omega
    refine whileL_res (fun k ρ m' => m' = m ∧ ∃ r : Nat, ρ = [some (.int a), some (.int b), some (.int r), some (.int k)] ∧ Nat.gcd r k = Nat.gcd a b) (fun r => r = .ok (.nx [some (.int a), some (.int b), some (.int g), some (.int 0)]) m) ?_ L b _ _ hF2 ⟨rfl, a, rfl, rfl⟩
    rintro k ρ m' ⟨rfl, r, rfl, hg⟩
    by_cases hk : k = 0
    · subst hk
      left
      rw [Nat.gcd_zero_right] at hg
      rw [hgd, ← hg]
      simp
    · right
      refine ⟨by simp [hk], .inl ⟨r % k, [some (.int a), some (.int b), some (.int k), some (.int ((r % k : Nat) : Int))], m', Nat.mod_lt _ (by omega), ?_, rfl, k, rfl, ?_⟩⟩
      · simp [mod_ok _ _ _ (show (0 : Int) < k by omega), mkT, SZ]
      · rw [← hg, Nat.gcd_comm k, ← Nat.gcd_rec, Nat.gcd_comm]
  have hg : 0 < g := hgd ▸ Nat.gcd_pos_of_pos_left _ ha
  have hle : g ≤ a := hgd ▸ Nat.gcd_le_left _ ha
  have hd := fdiv_ok m (a : Int) (g : Int) (by omega) (by omega) true
  have hm := mul_ok2 m ((a : Int) / (g : Int)) b (by omega) (by omega) true
  have e : (a : Int) / (g : Int) * b = (l : Int) := by
    have : l = a / g * b := by
      rw [hl, hgd]
      unfold Nat.lcm
      rw [Nat.mul_comm, Nat.mul_div_assoc _ (Nat.gcd_dvd_left a b), Nat.mul_comm]
    rw [this, Int.natCast_mul, Int.natCast_ediv]
  rw [e] at hm
  simp [z_common, hw, hd, hm, -ex_whl, mkT, SZ]⟩
theorem lcm_small {a b : Nat} (ha : 0 < a) (hb : 0 < b) : 0 < Nat.lcm a b ∧ Nat.lcm a b ≤ a * b := ⟨Nat.lcm_pos ha hb, Nat.le_of_dvd (Nat.mul_pos ha hb) (Nat.lcm_dvd_mul a b)⟩
/-! ### joint -/
theorem joint_ok (n : Nat) (f1 p1 f2 p2 : List Int) (l : Nat) (h1 : p1 ≠ []) (h2 : p2 ≠ []) (l1 : p1.length ≤ 24) (l2 : p2.length ≤ 24) (hl : l = Nat.lcm p1.length p2.length) :
    Ret (P L) (n + 2) "joint" [.lst [tm f1 p1, tm f2 p2]] (.tup [.int ((max f1.length f2.length : Nat) : Int), .int l]) := fun m => ⟨[], by
  rw [callF_succ (zf := z_joint) rfl rfl rfl rfl]
  have a1 : 0 < p1.length := List.length_pos_iff.mpr h1
  have a2 : 0 < p2.length := List.length_pos_iff.mpr h2
  have c1 := gc_ret (common_ok hL n 1 p1.length p1.length (by omega) a1 (by omega) (by omega) (Nat.lcm_one_left _).symm) rfl m
  have c2 := gc_ret (common_ok hL n p1.length p2.length l a1 a2 (by omega) (by omega) hl) rfl m
  simp only [Int.natCast_one] at c1
  simp [z_joint, forL, c1, c2, mkT, SZ, sameB]
  omega⟩
end K56
set_option maxHeartbeats 4000000
namespace K56
open PySem Zi
variable {L : Nat} (hL : 100000 ≤ L)
theorem lagL_succ (d : Nat → Int) (k : Nat) : lagL d (k + 1) = lagL d k ++ [qs d (k + 1)] := by
  unfold lagL
  rw [List.range_succ, List.map_append]; rfl
theorem lagL_len (d : Nat → Int) (k : Nat) : (lagL d k).length = k := by unfold lagL; rw [List.length_map, List.length_range]
/-- the loop of lags: what is taken off is an expression -/
def lagBody (e : Z) : List S := [.asg (.nm 4) (.blt .max2 true [.lit (.int 0), .bin .Sub true (.bin .Add true (.var 4) (.met false "at" (.var 0) [.var 5])) e]), .exp (.bmt .append true (.var 3) [.var 4])]
include hL
theorem lag_loop (n : Nat) (m : MH) (f1 p1 : List Int) (x1 : D) (e : Z) (M : Nat) (g d : Nat → Int) (h1 : p1 ≠ []) (hM : M < 100000) (hd : ∀ t, d t = atT f1 p1 t - g t)
    (he : ∀ (k : Nat) (q : Int) (M1 : MH), ev (ecOf (P L) m.length (callF (P L) (n + 2))) e [some (tm f1 p1), some x1, some (.int M), some (.ref m.length), some (.int q), some (.int k)] M1 = .ok (.int (g k)) M1) :
    ∃ o, ex (ecOf (P L) m.length (callF (P L) (n + 2))) (.for (.nm 5) (.rng [.var 2]) (lagBody e)) [some (tm f1 p1), some x1, some (.int M), some (.ref m.length), some (.int 0), none] (m ++ [some (.lst [])]) = .ok (.nx [some (tm f1 p1), some x1, some (.int M), some (.ref m.length), some (.int (qs d M)), o]) (m ++ [some (.lst ((lagL d M).map D.int))]) := by
  rw [ex_for]
  have hr := rng1 (n := M) (by omega)
  have key := forL_inv (same := sameB []) (turn := fun d ρ m' => (asgT (ecOf (P L) m.length (callF (P L) (n + 2))) (.nm 5) d ρ m').st ρ fun ρ m' => exs (ecOf (P L) m.length (callF (P L) (n + 2))) (lagBody e) ρ m')
    (I := fun done ρ m' => ∃ o, ρ = [some (tm f1 p1), some x1, some (.int M), some (.ref m.length), some (.int (qs d done.length)), o] ∧ m' = m ++ [some (.lst ((lagL d done.length).map D.int))])
    ((List.range M).map fun (k : Nat) => D.int k) (fun _ _ _ _ => rfl) (fun done dd rest ρ m' hall hI => ?_) ((List.range M).map fun (k : Nat) => D.int k) [] _ _ rfl ⟨none, rfl, rfl⟩
  · obtain ⟨ρ', m', e1, o, e2, e3⟩ := key
    rw [List.length_map, List.length_range] at e2 e3
    refine ⟨o, ?_⟩
    rw [← e2, ← e3, ← e1]
    simp only [evI_rng, evs_cons, ev_var, evs_nil, List.getElem?_cons_succ, List.getElem?_cons_zero, Option.getD_some, ofO_some, R.bind_ok, hr, R.st_ok]
    rfl
  · obtain ⟨o, rfl, rfl⟩ := hI
    obtain ⟨rfl, hk, _⟩ := range_at hall
    obtain ⟨k, hk0⟩ : ∃ k, done.length = k := ⟨_, rfl⟩
    rw [hk0] at hk ⊢
    refine ⟨[some (tm f1 p1), some x1, some (.int M), some (.ref m.length), some (.int (qs d (k + 1))), some (.int k)], m ++ [some (.lst ((lagL d (k + 1)).map D.int))], ?_, some (.int k), by rw [List.length_append, hk0]; rfl, by rw [List.length_append, hk0]; rfl⟩
    have ha : ∀ M1 : MH, gcR M1.length false (callF (P L) (n + 2) M1.length "Times.at" [tm f1 p1, .int k] M1) = .ok (.int (atT f1 p1 k)) M1 := fun M1 => gc_ret (at_ok hL n f1 p1 k h1) rfl M1
    have hq : max 0 (qs d k + atT f1 p1 k - g k) = qs d (k + 1) := by
      show _ = max 0 (qs d k + d k)
      rw [hd k]; congr 1; omega
    have e1 : ∀ M1 : MH, ev (ecOf (P L) m.length (callF (P L) (n + 2))) (.blt .max2 true [.lit (.int 0), .bin .Sub true (.bin .Add true (.var 4) (.met false "at" (.var 0) [.var 5])) e]) [some (tm f1 p1), some x1, some (.int M), some (.ref m.length), some (.int (qs d k)), some (.int k)] M1 = .ok (.int (qs d (k + 1))) M1 := fun M1 => by
      simp [ha M1, he k _ M1, hq]
    have hap := append_new (base := m.length) (fz := true) (m := m) (ds := (lagL d k).map D.int) (y := .int (qs d (k + 1))) (by rw [List.length_map, lagL_len]; omega) (Nat.le_refl _)
    have hkn := kind_new (m := m) (ds := (lagL d k).map D.int)
    rw [lagL_succ, List.map_append]
    simp [lagBody, e1, hap, hkn, bmT, -ev_blt]
theorem lags_ok (n : Nat) (f1 p1 f2 p2 : List Int) (M : Nat) (h1 : p1 ≠ []) (h2 : p2 ≠ []) (hM : M < 100000) : Ret (P L) (n + 3) "lags" [tm f1 p1, tm f2 p2, .int M] (.lst ((lagL (dif f1 p1 f2 p2) M).map D.int)) := fun m => ⟨[], by
  rw [callF_succ (zf := z_lags) rfl rfl rfl rfl]
  obtain ⟨o, hw⟩ := lag_loop hL n m f1 p1 (tm f2 p2) (.met false "at" (.var 1) [.var 5]) M (atT f2 p2) (dif f1 p1 f2 p2) h1 hM (fun _ => rfl) (fun k q M1 => by
    have := gc_ret (at_ok hL n f2 p2 k h2) rfl M1
    simp [this])
  unfold lagBody at hw
  have hf := frz_new (m := m) (x := []) (ints_pure (lagL (dif f1 p1 f2 p2) M))
  simp [z_lags, mkL, mkT, SZ, hw, hf, -ex_for]⟩
theorem steady_ok (n : Nat) (f1 p1 : List Int) (r : Int) (M : Nat) (h1 : p1 ≠ []) (hM : M < 100000) : Ret (P L) (n + 3) "steady_lags" [tm f1 p1, .int r, .int M] (.lst ((lagL (fun t => atT f1 p1 t - r) M).map D.int)) := fun m => ⟨[], by
  rw [callF_succ (zf := z_steady_lags) rfl rfl rfl rfl]
  obtain ⟨o, hw⟩ := lag_loop hL n m f1 p1 (.int r) (.var 1) M (fun _ => r) (fun t => atT f1 p1 t - r) h1 hM (fun _ => rfl) (fun k q M1 => by simp)
  unfold lagBody at hw
  have hf := frz_new (m := m) (x := []) (ints_pure (lagL (fun t => atT f1 p1 t - r) M))
  simp [z_steady_lags, mkL, mkT, SZ, hw, hf, -ex_for]⟩
end K56
set_option maxHeartbeats 4000000
namespace K56
open PySem Zi
def lagI (x y : D) : D := .ins "Lag" [("number", x), ("tick", y)]
def groI (x y : D) : D := .ins "Growing" [("growth", x), ("period", y)]
def rateI (x y : D) : D := .ins "Rate" [("number", x), ("tick", y)]
def keepI (x y z : D) : D := .ins "Keep" [("rows", x), ("tick", y), ("group", z)]
section
variable (L n : Nat) (m : MH) (x y z : D)
@[simp] theorem fldL1 (b : Nat) (c) : (ecOf (P L) b c).fld "Lag" "number" = true := rfl
@[simp] theorem fldL2 (b : Nat) (c) : (ecOf (P L) b c).fld "Lag" "tick" = true := rfl
@[simp] theorem fldG1 (b : Nat) (c) : (ecOf (P L) b c).fld "Growing" "growth" = true := rfl
@[simp] theorem fldG2 (b : Nat) (c) : (ecOf (P L) b c).fld "Growing" "period" = true := rfl
@[simp] theorem fldR1 (b : Nat) (c) : (ecOf (P L) b c).fld "Rate" "number" = true := rfl
@[simp] theorem fldR2 (b : Nat) (c) : (ecOf (P L) b c).fld "Rate" "tick" = true := rfl
@[simp] theorem fldK1 (b : Nat) (c) : (ecOf (P L) b c).fld "Keep" "rows" = true := rfl
@[simp] theorem fldK2 (b : Nat) (c) : (ecOf (P L) b c).fld "Keep" "tick" = true := rfl
@[simp] theorem fldK3 (b : Nat) (c) : (ecOf (P L) b c).fld "Keep" "group" = true := rfl
@[simp] theorem fldT1 (b : Nat) (c) : (ecOf (P L) b c).fld "Times" "front" = true := rfl
@[simp] theorem fldT2 (b : Nat) (c) : (ecOf (P L) b c).fld "Times" "period" = true := rfl
theorem mk_lag (b : Nat) (hx : pure x = true) (hy : pure y = true) : mkR (ecOf (P L) b (callF (P L) (n + 1))) true "Lag" [x, y] m = .ok (lagI x y) m := by
  refine mk_new (g := "Lag.__init__") rfl ?_ (by show (pure x && (pure y && true)) = true; rw [hx, hy]; rfl)
  rw [ec_call, callF_succ (zf := z_Lag___init__) rfl rfl rfl rfl]
  have h1 := setA_new (base := m.length) (fld := (ecOf (P L) m.length (callF (P L) n)).fld) (m := m) (c := "Lag") (f := "number") (fs := []) (v := x) rfl (by decide) (Nat.le_refl _)
  have h2 := setA_new (base := m.length) (fld := (ecOf (P L) m.length (callF (P L) n)).fld) (m := m) (c := "Lag") (f := "tick") (fs := fput [] "number" x) (v := y) rfl (by show 1 < 1000; decide) (Nat.le_refl _)
  simp [z_Lag___init__, h1, h2]
  rfl
theorem mk_gro (b : Nat) (hx : pure x = true) (hy : pure y = true) : mkR (ecOf (P L) b (callF (P L) (n + 1))) true "Growing" [x, y] m = .ok (groI x y) m := by
  refine mk_new (g := "Growing.__init__") rfl ?_ (by show (pure x && (pure y && true)) = true; rw [hx, hy]; rfl)
  rw [ec_call, callF_succ (zf := z_Growing___init__) rfl rfl rfl rfl]
  have h1 := setA_new (base := m.length) (fld := (ecOf (P L) m.length (callF (P L) n)).fld) (m := m) (c := "Growing") (f := "growth") (fs := []) (v := x) rfl (by decide) (Nat.le_refl _)
  have h2 := setA_new (base := m.length) (fld := (ecOf (P L) m.length (callF (P L) n)).fld) (m := m) (c := "Growing") (f := "period") (fs := fput [] "growth" x) (v := y) rfl (by show 1 < 1000; decide) (Nat.le_refl _)
  simp [z_Growing___init__, h1, h2]
  rfl
theorem mk_rate (b : Nat) (hx : pure x = true) (hy : pure y = true) : mkR (ecOf (P L) b (callF (P L) (n + 1))) true "Rate" [x, y] m = .ok (rateI x y) m := by
  refine mk_new (g := "Rate.__init__") rfl ?_ (by show (pure x && (pure y && true)) = true; rw [hx, hy]; rfl)
  rw [ec_call, callF_succ (zf := z_Rate___init__) rfl rfl rfl rfl]
  have h1 := setA_new (base := m.length) (fld := (ecOf (P L) m.length (callF (P L) n)).fld) (m := m) (c := "Rate") (f := "number") (fs := []) (v := x) rfl (by decide) (Nat.le_refl _)
  have h2 := setA_new (base := m.length) (fld := (ecOf (P L) m.length (callF (P L) n)).fld) (m := m) (c := "Rate") (f := "tick") (fs := fput [] "number" x) (v := y) rfl (by show 1 < 1000; decide) (Nat.le_refl _)
  simp [z_Rate___init__, h1, h2]
  rfl
theorem mk_keep (b : Nat) (hx : pure x = true) (hy : pure y = true) (hz : pure z = true) : mkR (ecOf (P L) b (callF (P L) (n + 1))) true "Keep" [x, y, z] m = .ok (keepI x y z) m := by
  refine mk_new (g := "Keep.__init__") rfl ?_ (by show (pure x && (pure y && (pure z && true))) = true; rw [hx, hy, hz]; rfl)
  rw [ec_call, callF_succ (zf := z_Keep___init__) rfl rfl rfl rfl]
  have h1 := setA_new (base := m.length) (fld := (ecOf (P L) m.length (callF (P L) n)).fld) (m := m) (c := "Keep") (f := "rows") (fs := []) (v := x) rfl (by decide) (Nat.le_refl _)
  have h2 := setA_new (base := m.length) (fld := (ecOf (P L) m.length (callF (P L) n)).fld) (m := m) (c := "Keep") (f := "tick") (fs := fput [] "rows" x) (v := y) rfl (by show 1 < 1000; decide) (Nat.le_refl _)
  have h3 := setA_new (base := m.length) (fld := (ecOf (P L) m.length (callF (P L) n)).fld) (m := m) (c := "Keep") (f := "group") (fs := fput (fput [] "rows" x) "tick" y) (v := z) rfl (by show 2 < 1000; decide) (Nat.le_refl _)
  simp [z_Keep___init__, h1, h2, h3]
  rfl
end
/-- numbers that a timetable may have -/
structure Tok (fr pe : List Int) : Prop where
  pe0 : pe ≠ []
  fl : fr.length ≤ 24
  pl : pe.length ≤ 24
  f : ∀ i ∈ fr, 0 ≤ i ∧ i ≤ 100
  p : ∀ i ∈ pe, 0 ≤ i ∧ i ≤ 100
section
variable {L : Nat} (hL : 100000 ≤ L)
include hL
theorem mk_times (n : Nat) (m : MH) (b : Nat) (fr pe : List Int) (h : Tok fr pe) : mkR (ecOf (P L) b (callF (P L) (n + 3))) true "Times" [.lst (fr.map D.int), .lst (pe.map D.int)] m = .ok (tm fr pe) m := by
  refine mk_new (g := "Times.__init__") rfl ?_ (by show (pures (fr.map D.int) && (pures (pe.map D.int) && true)) = true; rw [ints_pure, ints_pure]; rfl)
  rw [ec_call, callF_succ (zf := z_Times___init__) rfl rfl rfl rfl]
  have h1 := setA_new (base := m.length) (fld := (ecOf (P L) m.length (callF (P L) (n + 2))).fld) (m := m) (c := "Times") (f := "front") (fs := []) (v := .lst (fr.map D.int)) rfl (by decide) (Nat.le_refl _)
  have h2 := setA_new (base := m.length) (fld := (ecOf (P L) m.length (callF (P L) (n + 2))).fld) (m := m) (c := "Times") (f := "period") (fs := fput [] "front" (.lst (fr.map D.int))) (v := .lst (pe.map D.int)) rfl (by show 1 < 1000; decide) (Nat.le_refl _)
  generalize hm : m ++ [some (Ob.ins "Times" [])] = m0 at h1 ⊢
  have c1 := gc_ret (are_numbers_ok hL n fr h.f h.fl) rfl m0
  have c2 := gc_ret (are_numbers_ok hL n pe h.p h.pl) rfl m0
  have hp : ¬ pe.length = 0 := fun e => h.pe0 (List.length_eq_zero_iff.mp e)
  have l1 : ∀ M1 : MH, bltD .list true [.lst (fr.map D.int)] M1 = .ok (.lst (fr.map D.int)) M1 := fun M1 => mkL_ok M1 _ (by rw [List.length_map]; have := h.fl; omega)
  have l2 : ∀ M1 : MH, bltD .list true [.lst (pe.map D.int)] M1 = .ok (.lst (pe.map D.int)) M1 := fun M1 => mkL_ok M1 _ (by rw [List.length_map]; have := h.pl; omega)
  have hp2 : ¬ (pe.length : Int) = 0 := by omega
  simp [z_Times___init__, c1, c2, h.pe0, hp2, l1, l2, h1, h2]
  rfl
end
end K56
set_option maxHeartbeats 4000000
namespace K56
open PySem Zi
theorem sum_bound {c : Int} : ∀ l : List Int, (∀ i ∈ l, 0 ≤ i ∧ i ≤ c) → 0 ≤ l.sum ∧ l.sum ≤ c * l.length
  | [], _ => by simp
  | a :: l, h => by
    have := sum_bound l fun i hi => h i (List.mem_cons_of_mem _ hi)
    have := h a List.mem_cons_self
    rw [List.sum_cons, List.length_cons, Int.natCast_add, Int.mul_add]
    omega
theorem blt_mx {fz : Bool} {l : List Int} (h : l ≠ []) (m : MH) : bltD .maxL fz [.lst (l.map D.int)] m = .ok (.int (mx l)) m := by
  cases l with
  | nil => exact (h rfl).elim
  | cons a l => exact blt_maxL fz a l
theorem lagL_ne {d : Nat → Int} {M : Nat} (h : 0 < M) : lagL d M ≠ [] := fun e => by
  have := congrArg List.length e
  rw [lagL_len] at this
  simp at this
  omega
theorem flat_ints : ∀ l : List Int, (l.map D.int).all flatD = true
  | [] => rfl
  | _ :: l => flat_ints l
theorem find_int (l : List Int) (x : Int) (h : x ∈ l) : ∃ j, (l.map D.int).findIdx? (fun d => eqF d (.int x)) = some j ∧ l[j]? = some x := by
  induction l with
  | nil => cases h
  | cons a l ih =>
    by_cases c : a = x
    · subst c
      refine ⟨0, ?_, rfl⟩
      rw [List.map_cons, List.findIdx?_cons]
      have : eqF (.int a) (.int a) = true := by show (a == a) = true; simp
      rw [this]; rfl
    · rcases List.mem_cons.mp h with e | h
      · exact (c e.symm).elim
      · obtain ⟨j, h1, h2⟩ := ih h
        refine ⟨j + 1, ?_, by simpa using h2⟩
        rw [List.map_cons, List.findIdx?_cons]
        have : eqF (.int a) (.int x) = false := by show (a == x) = false; simpa using c
        rw [this, h1]; rfl
theorem index_ok {l : List Int} {x : Int} (h : x ∈ l) : ∃ j : Nat, (∀ (base : Nat) (fz : Bool) (m : MH), bmtD base .index fz (.lst (l.map D.int)) [.int x] m = .ok (.int j) m) ∧ l[j]? = some x := by
  obtain ⟨j, h1, h2⟩ := find_int l x h
  refine ⟨j, fun base fz m => ?_, h2⟩
  show (if flatD (.int x) = true ∧ (l.map D.int).all flatD = true then (ofO ((l.map D.int).findIdx? fun d => eqF d (.int x)) m).bind fun (j : Nat) m => R.ok (D.int j) m else .bad) = _
  rw [if_pos ⟨rfl, flat_ints l⟩, h1]
  rfl
@[simp] theorem kind_lst (m : MH) (ds : List D) : kindD m (.lst ds) = some "list" := rfl
theorem sub_tup0 (m : MH) (a b : D) : subD (.tup [a, b]) (.int 0) m = some a := rfl
section
variable {L : Nat} (hL : 100000 ≤ L)
include hL
theorem growth_ok (n : Nat) (f1 p1 f2 p2 : List Int) (l : Nat) (t1 : Tok f1 p1) (t2 : Tok f2 p2) (hl : l = Nat.lcm p1.length p2.length) :
    Ret (P L) (n + 3) "growth_of" [tm f1 p1, tm f2 p2] (.tup [.int (gro p1 p2 l), .int l]) := fun m => ⟨[], by
  rw [callF_succ (zf := z_growth_of) rfl rfl rfl rfl]
  have a1 : 0 < p1.length := List.length_pos_iff.mpr t1.pe0
  have a2 : 0 < p2.length := List.length_pos_iff.mpr t2.pe0
  have b1 := t1.pl
  have b2 := t2.pl
  have hlb : l ≤ 576 := by
    rw [hl]
    exact Nat.le_trans (lcm_small hL a1 a2).2 (Nat.mul_le_mul b1 b2)
  have j := gc_ret (joint_ok hL n f1 p1 f2 p2 l t1.pe0 t2.pe0 t1.pl t2.pl hl) rfl m
  obtain ⟨s1, s2⟩ := sum_bound p1 t1.p
  obtain ⟨s3, s4⟩ := sum_bound p2 t2.p
  have d1 := fdiv_ok m (l : Int) (p1.length : Int) (by omega) (by omega) true
  have d2 := fdiv_ok m (l : Int) (p2.length : Int) (by omega) (by omega) true
  have m1 := mul_ok2 m ((l : Int) / (p1.length : Int)) p1.sum (by omega) (by omega) true
  have m2 := mul_ok2 m ((l : Int) / (p2.length : Int)) p2.sum (by omega) (by omega) true
  have ml := mkL_ok m [tm f1 p1, tm f2 p2] (by show 2 ≤ 16777216; omega)
  have e : (l : Int) / (p1.length : Int) * p1.sum - (l : Int) / (p2.length : Int) * p2.sum = gro p1 p2 l := by
    unfold gro
    rw [Int.natCast_ediv, Int.natCast_ediv]
  simp [z_growth_of, ml, j, d1, d2, m1, m2, e, mkT, SZ]⟩
theorem greatest_ok (n : Nat) (f1 p1 f2 p2 : List Int) (t1 : Tok f1 p1) (t2 : Tok f2 p2) :
    (∃ (o : Option Int) (x y : D), LagOf (dif f1 p1 f2 p2) o ∧ pure x = true ∧ pure y = true ∧ Ret (P L) (n + 5) "greatest_lag" [tm f1 p1, tm f2 p2] (match o with
      | some v => lagI (.int v) y
      | none => groI x y)) := by
  obtain ⟨l, hl⟩ : ∃ l, l = Nat.lcm p1.length p2.length := ⟨_, rfl⟩
  have a1 : 0 < p1.length := List.length_pos_iff.mpr t1.pe0
  have a2 : 0 < p2.length := List.length_pos_iff.mpr t2.pe0
  have b1 := t1.pl
  have b2 := t2.pl
  have c1 := t1.fl
  have c2 := t2.fl
  have hlb : l ≤ 576 := by
    rw [hl]
    exact Nat.le_trans (lcm_small hL a1 a2).2 (Nat.mul_le_mul b1 b2)
  have hl0 : 0 < l := by rw [hl]; exact (lcm_small hL a1 a2).1
  have hd1 : p1.length ∣ l := by rw [hl]; exact Nat.dvd_lcm_left _ _
  have hd2 : p2.length ∣ l := by rw [hl]; exact Nat.dvd_lcm_right _ _
  have hck1 := fun m => gc_ret (check_times_ok hL (n + 3) f1 p1) rfl m
  have hck2 := fun m => gc_ret (check_times_ok hL (n + 3) f2 p2) rfl m
  have hg := fun m => gc_ret (growth_ok hL (n + 1) f1 p1 f2 p2 l t1 t2 hl) rfl m
  have hj := fun m => gc_ret (joint_ok hL (n + 2) f1 p1 f2 p2 l t1.pe0 t2.pe0 t1.pl t2.pl hl) rfl m
  by_cases c : 0 < gro p1 p2 l
  · refine ⟨none, .int (gro p1 p2 l), .int l, lag_none t1.pe0 t2.pe0 hd1 hd2 hl0 c, rfl, rfl, fun m => ⟨[], ?_⟩⟩
    rw [callF_succ (zf := z_greatest_lag) rfl rfl rfl rfl]
    have hm := mk_gro L (n + 3) m (.int (gro p1 p2 l)) (.int l) m.length rfl rfl
    simp [z_greatest_lag, hck1, hck2, hg, c, hm]
  · have hM : 0 < max f1.length f2.length + 2 * l := by omega
    have hlags := fun m => gc_ret (lags_ok hL (n + 1) f1 p1 f2 p2 (max f1.length f2.length + 2 * l) t1.pe0 t2.pe0 (by omega)) (ints_pure _) m
    have hne : lagL (dif f1 p1 f2 p2) (max f1.length f2.length + 2 * l) ≠ [] := lagL_ne hM
    obtain ⟨v, hv⟩ : ∃ v, v = mx (lagL (dif f1 p1 f2 p2) (max f1.length f2.length + 2 * l)) := ⟨_, rfl⟩
    have hmx := fun m => blt_mx (fz := true) hne m
    obtain ⟨jj, hix, _⟩ := index_ok (mx_mem hne)
    have hls := lag_some (f1 := f1) (f2 := f2) t1.pe0 t2.pe0 hd1 hd2 hl0 (by omega)
    rw [← hv] at hmx hix hls
    refine ⟨some v, .non, .int jj, hls, rfl, rfl, fun m => ⟨[], ?_⟩⟩
    rw [callF_succ (zf := z_greatest_lag) rfl rfl rfl rfl]
    have hm := mk_lag L (n + 3) m (.int v) (.int jj) m.length rfl rfl
    have m2 := mul_ok m 2 l (by omega) (by omega) true
    have ml := mkL_ok m [tm f1 p1, tm f2 p2] (by show 2 ≤ 16777216; omega)
    have e : ((max f1.length f2.length : Nat) : Int) + 2 * (l : Int) = ((max f1.length f2.length + 2 * l : Nat) : Int) := by omega
    generalize hM2 : max f1.length f2.length + 2 * l = M at *
    generalize max f1.length f2.length = F at *
    have e : (F : Int) + 2 * (l : Int) = (M : Int) := by omega
    simp [z_greatest_lag, hck1, hck2, hg, hj, c, hm, m2, ml, e, hlags, hmx, hix, sub_tup0, bmT]
end
end K56
set_option maxHeartbeats 4000000
namespace K56
open PySem Zi
def optD : Option Int → D
  | some v => .int v
  | none => .non
theorem optD_pure (o : Option Int) : pure (optD o) = true := by cases o <;> rfl
theorem atT_le (fr pe : List Int) (h : Tok fr pe) (t : Nat) : 0 ≤ atT fr pe t ∧ atT fr pe t ≤ 100 := by
  have a1 : 0 < pe.length := List.length_pos_iff.mpr h.pe0
  unfold atT
  split
  · rename_i c
    rw [List.getElem?_eq_getElem c, Option.getD_some]
    exact h.f _ (List.getElem_mem c)
  · have c := Nat.mod_lt (t - fr.length) a1
    rw [List.getElem?_eq_getElem c, Option.getD_some]
    exact h.p _ (List.getElem_mem c)
def Stays (f p : List Int) (r k : Int) : Prop := ∀ t, qs (fun t => atT f p t - r) t ≤ k
theorem wd_const (r : Int) : ∀ k : Nat, wd (fun _ => r) k = k * r
  | 0 => by simp [wd]
  | k + 1 => by
    show wd (fun _ => r) k + r = _
    rw [wd_const r k, Int.natCast_add, Int.add_mul]; omega
theorem stay_per (f p : List Int) (r : Int) : Per (fun t => atT f p t - r) f.length p.length := fun t ht => by
  show atT f p (t + p.length) - r = _
  rw [atT_per f p t ht]
theorem stay_wd (f p : List Int) (r : Int) (t : Nat) (ht : f.length ≤ t) : wd (fun i => atT f p (t + i) - r) p.length = p.sum - p.length * r := by
  have e := atT_wd f p t 1 ht
  rw [Nat.mul_one] at e
  have e2 := wd_sub (fun i => atT f p (t + i)) (fun _ => r) p.length
  rw [e2, e, wd_const]
  simp
theorem lagL_mx {d : Nat → Int} {M : Nat} (h : 0 < M) : ∃ u, u < M ∧ qs d (u + 1) = mx (lagL d M) := by
  obtain ⟨u, hu, e⟩ := List.mem_map.mp (mx_mem (lagL_ne (d := d) h))
  exact ⟨u, List.mem_range.mp hu, e⟩
theorem stays_iff (f p : List Int) (h : Tok f p) (r k : Int) : Stays f p r k ↔ (p.sum ≤ r * p.length ∧ mx (lagL (fun t => atT f p t - r) (f.length + 2 * p.length)) ≤ k) := by
  have a1 : 0 < p.length := List.length_pos_iff.mpr h.pe0
  have hne := lagL_ne (d := fun t => atT f p t - r) (M := f.length + 2 * p.length) (by omega)
  constructor
  · intro hs
    refine ⟨?_, ?_⟩
    · by_cases c : p.sum ≤ r * p.length
      · exact c
      · have c2 : 1 ≤ p.sum - p.length * r := by rw [Int.mul_comm]; omega
        have := q_up (stay_per f p r) (stay_wd f p r) c2 (k.toNat + 1)
        have := hs (f.length + p.length * (k.toNat + 1))
        omega
    · obtain ⟨u, _, e⟩ := lagL_mx (d := fun t => atT f p t - r) (M := f.length + 2 * p.length) (by omega)
      rw [← e]
      exact hs (u + 1)
  · rintro ⟨h1, h2⟩ t
    obtain ⟨u, hu, e⟩ := q_sup (stay_per f p r) a1 (stay_wd f p r) (by rw [Int.mul_comm]; omega) t t (Nat.le_refl _)
    have : qs (fun t => atT f p t - r) (u + 1) ∈ lagL (fun t => atT f p t - r) (f.length + 2 * p.length) := List.mem_map.mpr ⟨u, List.mem_range.mpr hu, rfl⟩
    have := mx_le this
    omega
theorem stays_big (f p : List Int) (h : Tok f p) (k : Int) (hk : 0 ≤ k) : Stays f p 100 k := fun t => by
  have : ∀ t, qs (fun t => atT f p t - 100) t = 0 := fun t => by
    induction t with
    | zero => rfl
    | succ t ih =>
      have := (atT_le f p h t).2
      show max 0 (qs (fun t => atT f p t - 100) t + (atT f p t - 100)) = 0
      rw [ih]; omega
  rw [this]; exact hk
/-- where it does not stay within, that is seen soon -/
theorem stays_seen (f p : List Int) (h : Tok f p) (r k : Int) (hk : 0 ≤ k) (hk2 : k ≤ 1000) (hn : ¬ Stays f p r k) : ∃ T : Nat, T < 50000 ∧ k < qs (fun t => atT f p t - r) (T + 1) := by
  have a1 : 0 < p.length := List.length_pos_iff.mpr h.pe0
  have b1 := h.pl
  have b2 := h.fl
  by_cases c : p.sum ≤ r * p.length
  · have hm : ¬ mx (lagL (fun t => atT f p t - r) (f.length + 2 * p.length)) ≤ k := fun q => hn ((stays_iff f p h r k).mpr ⟨c, q⟩)
    obtain ⟨u, hu, e⟩ := lagL_mx (d := fun t => atT f p t - r) (M := f.length + 2 * p.length) (by omega)
    exact ⟨u, by omega, by omega⟩
  · have c2 : 1 ≤ p.sum - p.length * r := by rw [Int.mul_comm]; omega
    have := q_up (stay_per f p r) (stay_wd f p r) c2 (k.toNat + 1)
    have hpos : 0 < f.length + p.length * (k.toNat + 1) := by
      have := Nat.mul_pos a1 (show 0 < k.toNat + 1 by omega)
      omega
    have hlt : p.length * (k.toNat + 1) ≤ 24 * 1001 := Nat.mul_le_mul b1 (by omega)
    refine ⟨f.length + p.length * (k.toNat + 1) - 1, by omega, ?_⟩
    rw [show f.length + p.length * (k.toNat + 1) - 1 + 1 = f.length + p.length * (k.toNat + 1) by omega]
    omega
section
variable {L : Nat} (hL : 100000 ≤ L)
include hL
theorem lag_bool (n : Nat) (x y : D) : Ret (P L) (n + 1) "Lag.__bool__" [lagI x y] (.bl true) := fun m => ⟨[], by
  rw [callF_succ (zf := z_Lag___bool__) rfl rfl rfl rfl]
  simp [z_Lag___bool__]⟩
theorem gro_bool (n : Nat) (x y : D) : Ret (P L) (n + 1) "Growing.__bool__" [groI x y] (.bl false) := fun m => ⟨[], by
  rw [callF_succ (zf := z_Growing___bool__) rfl rfl rfl rfl]
  simp [z_Growing___bool__]⟩
theorem keep_bool (n : Nat) (x y z : D) : Ret (P L) (n + 1) "Keep.__bool__" [keepI x y z] (.bl true) := fun m => ⟨[], by
  rw [callF_succ (zf := z_Keep___bool__) rfl rfl rfl rfl]
  simp [z_Keep___bool__]⟩
theorem own_lag (n b : Nat) (x y : D) (m : MH) : ownR (ecOf (P L) b (callF (P L) (n + 1))) false "__bool__" (lagI x y) (fun m => .ok [] m) m = .ok (.bl true) m := by
  show ((gcR m.length false (callF (P L) (n + 1) m.length "Lag.__bool__" [lagI x y] m)).nox).bind (ownPost "__bool__") = _
  rw [gc_ret (lag_bool hL n x y) rfl]; rfl
theorem own_gro (n b : Nat) (x y : D) (m : MH) : ownR (ecOf (P L) b (callF (P L) (n + 1))) false "__bool__" (groI x y) (fun m => .ok [] m) m = .ok (.bl false) m := by
  show ((gcR m.length false (callF (P L) (n + 1) m.length "Growing.__bool__" [groI x y] m)).nox).bind (ownPost "__bool__") = _
  rw [gc_ret (gro_bool hL n x y) rfl]; rfl
theorem own_keep (n b : Nat) (x y z : D) (m : MH) : ownR (ecOf (P L) b (callF (P L) (n + 1))) false "__bool__" (keepI x y z) (fun m => .ok [] m) m = .ok (.bl true) m := by
  show ((gcR m.length false (callF (P L) (n + 1) m.length "Keep.__bool__" [keepI x y z] m)).nox).bind (ownPost "__bool__") = _
  rw [gc_ret (keep_bool hL n x y z) rfl]; rfl
theorem lawlag_ok (n : Nat) (f1 p1 f2 p2 : List Int) (t1 : Tok f1 p1) (t2 : Tok f2 p2) : ∃ o, LagOf (dif f1 p1 f2 p2) o ∧ Ret (P L) (n + 6) "_law_lag" [tm f1 p1, tm f2 p2] (optD o) := by
  obtain ⟨o, x, y, h1, hx, hy, hr⟩ := greatest_ok hL n f1 p1 f2 p2 t1 t2
  refine ⟨o, h1, fun m => ⟨[], ?_⟩⟩
  rw [callF_succ (zf := z__law_lag) rfl rfl rfl rfl]
  cases o with
  | none =>
    have hg := gc_ret hr (by show (pure x && (pure y && true)) = true; rw [hx, hy]; rfl) m
    simp [z__law_lag, hg, own_gro hL, optD]
  | some v =>
    have hg := gc_ret hr (by show (true && (pure y && true)) = true; rw [hy]; rfl) m
    have ha : ∀ (b : Nat) (c), attR (ecOf (P L) b c) (lagI (.int v) y) "number" m = .ok (.int v) m := fun b c => rfl
    simp [z__law_lag, hg, own_lag hL, optD, ha]
theorem atmost_ok (n : Nat) (a b : Option Int) (h : AtMost a b) : Ret (P L) (n + 1) "_law_is_at_most" [optD a, optD b] (.bl true) := fun m => ⟨[], by
  rw [callF_succ (zf := z__law_is_at_most) rfl rfl rfl rfl]
  cases b with
  | none => cases a <;> simp [z__law_is_at_most, optD]
  | some y => cases a with
    | none => exact h.elim
    | some x =>
      have h' : x ≤ y := h
      simp [z__law_is_at_most, optD, h']⟩
theorem stays_ok (n : Nat) (f p : List Int) (h : Tok f p) (r k : Int) (h0 : 0 ≤ r) (h1 : r ≤ 1000) : ∃ b : Bool, Ret (P L) (n + 4) "stays" [tm f p, .int r, .int k] (.bl b) ∧ (b = true ↔ Stays f p r k) := by
  have a1 : 0 < p.length := List.length_pos_iff.mpr h.pe0
  have b1 := h.pl
  have b2 := h.fl
  have hne := lagL_ne (d := fun t => atT f p t - r) (M := f.length + 2 * p.length) (by omega)
  have hst := fun m => gc_ret (steady_ok hL n f p r (f.length + 2 * p.length) h.pe0 (by omega)) (ints_pure _) m
  have hmx := fun m => blt_mx (fz := true) hne m
  have iff := stays_iff f p h r k
  generalize hl : lagL (fun t => atT f p t - r) (f.length + 2 * p.length) = l at *
  generalize hv : mx l = v at *
  by_cases c : r * p.length < p.sum
  · refine ⟨false, fun m => ⟨[], ?_⟩, by constructor <;> intro q; cases q; have := (iff.mp q).1; omega⟩
    rw [callF_succ (zf := z_stays) rfl rfl rfl rfl]
    have m1 := mul_ok m r p.length (by omega) (by omega) true
    simp [z_stays, m1, c]
  · refine ⟨decide (v ≤ k), fun m => ⟨[], ?_⟩, by rw [iff, decide_eq_true_eq]; constructor <;> intro q; exact ⟨by omega, q⟩; exact q.2⟩
    rw [callF_succ (zf := z_stays) rfl rfl rfl rfl]
    have m1 := mul_ok m r p.length (by omega) (by omega) true
    have m2 := mul_ok m 2 p.length (by omega) (by omega) true
    generalize hM : f.length + 2 * p.length = M at *
    have e : (f.length : Int) + 2 * (p.length : Int) = (M : Int) := by omega
    simp [z_stays, m1, m2, c, e, hst, hmx]
theorem least_T (g : Nat → Int) (k : Int) : ∀ T : Nat, k < g T → ∃ T0, T0 ≤ T ∧ k < g T0 ∧ ∀ u, u < T0 → ¬ k < g u
  | 0, h => ⟨0, Nat.le_refl _, h, fun u hu => by omega⟩
  | T + 1, h => by
    by_cases c : ∃ u, u ≤ T ∧ k < g u
    · obtain ⟨u, hu, hk⟩ := c
      obtain ⟨T0, h1, h2, h3⟩ := least_T g k u hk
      exact ⟨T0, by omega, h2, h3⟩
    · exact ⟨T + 1, Nat.le_refl _, h, fun u hu q => c ⟨u, by omega, q⟩⟩
termination_by T => T
theorem beyond_ok (n : Nat) (f p : List Int) (h : Tok f p) (r k : Int) (T : Nat) (hT : T < 50000) (hk : k < qs (fun t => atT f p t - r) (T + 1)) : ∃ t : Nat, Ret (P L) (n + 3) "first_beyond" [tm f p, .int r, .int k] (.int t) := by
  obtain ⟨T0, h1, h2, h3⟩ := least_T hL (fun t => qs (fun t => atT f p t - r) (t + 1)) k T hk
  have key : ∀ m : MH, ex (ecOf (P L) m.length (callF (P L) (n + 2))) (.whl (.lit (.bl true)) [.asg (.nm 3) (.blt .max2 true [.lit (.int 0), .bin .Sub true (.bin .Add true (.var 3) (.met false "at" (.var 0) [.var 4])) (.var 1)]), .ifs (.cmp .Gt (.var 3) (.var 2)) [.ret false (.var 4)] [], .aug 4 .Add (.lit (.int 1))]) [some (tm f p), some (.int r), some (.int k), some (.int 0), some (.int 0)] m = .ok (.rt (.int T0)) m := fun m => by
    rw [ex_whl, ec_lim]
    refine whileL_res (fun kk ρ m' => m' = m ∧ ∃ t : Nat, t + kk = T0 ∧ ρ = [some (tm f p), some (.int r), some (.int k), some (.int (qs (fun t => atT f p t - r) t)), some (.int t)]) (fun r => r = .ok (.rt (.int T0)) m) ?_ L T0 _ _ (by omega) ⟨rfl, 0, by omega, rfl⟩
    rintro kk ρ m' ⟨rfl, t, ht, rfl⟩
    right
    refine ⟨by simp, ?_⟩
    have ha := gc_ret (at_ok hL n f p t h.pe0) rfl m'
    have hq : max 0 (qs (fun t => atT f p t - r) t + atT f p t - r) = qs (fun t => atT f p t - r) (t + 1) := by
      show _ = max 0 (qs (fun t => atT f p t - r) t + (atT f p t - r))
      congr 1; omega
    by_cases c : t = T0
    · subst c
      right
      refine ⟨.int t, m', ?_, rfl⟩
      simp [ha, hq, h2]
    · left
      have h3' := h3 t (by omega)
      refine ⟨kk - 1, [some (tm f p), some (.int r), some (.int k), some (.int (qs (fun t => atT f p t - r) (t + 1))), some (.int ((t + 1 : Nat) : Int))], m', by omega, ?_, rfl, t + 1, by omega, rfl⟩
      simp [ha, hq, h3']
  refine ⟨T0, fun m => ⟨[], ?_⟩⟩
  rw [callF_succ (zf := z_first_beyond) rfl rfl rfl rfl]
  simp [z_first_beyond, key, mkT, SZ, -ex_whl]
theorem bound_ok (n : Nat) (f p : List Int) (k : Int) (h0 : 0 ≤ k) (h1 : k ≤ 1000) : Ret (P L) (n + 2) "check_bound" [tm f p, .int k] .non := fun m => ⟨[], by
  rw [callF_succ (zf := z_check_bound) rfl rfl rfl rfl]
  have c1 := gc_ret (check_times_ok hL n f p) rfl m
  have c2 := gc_ret (nat_ok hL n k 1000 h0 h1) rfl m
  simp [z_check_bound, c1, c2]⟩
theorem rate_ok (n : Nat) (f p : List Int) (h : Tok f p) (k : Int) (h0 : 0 ≤ k) (h1 : k ≤ 1000) : ∃ (r : Nat) (y : D), r ≤ 100 ∧ pure y = true ∧ Ret (P L) (n + 5) "least_rate" [tm f p, .int k] (rateI (.int r) y) ∧ Stays f p r k ∧ ∀ q : Nat, q < r → ¬ Stays f p q k := by
  obtain ⟨r, r1, r2, r3⟩ : ∃ r : Nat, r ≤ 100 ∧ Stays f p r k ∧ ∀ q : Nat, q < r → ¬ Stays f p q k := by
    have big := stays_big f p h k h0
    have : ∀ N : Nat, Stays f p N k → ∃ r : Nat, r ≤ N ∧ Stays f p r k ∧ ∀ q : Nat, q < r → ¬ Stays f p q k := by
      intro N
      induction N using Nat.strongRecOn with
      | ind N ih =>
        intro hN
        by_cases c : ∃ q : Nat, q < N ∧ Stays f p q k
        · obtain ⟨q, q1, q2⟩ := c
          obtain ⟨r, a1, a2, a3⟩ := ih q q1 q2
          exact ⟨r, by omega, a2, a3⟩
        · exact ⟨N, Nat.le_refl _, hN, fun q hq z => c ⟨q, hq, z⟩⟩
    exact this 100 big
  have hloop : ∀ m : MH, ex (ecOf (P L) m.length (callF (P L) (n + 4))) (.whl (.not (.call false "stays" [.var 0, .var 2, .var 1])) [.aug 2 .Add (.lit (.int 1))]) [some (tm f p), some (.int k), some (.int 0)] m = .ok (.nx [some (tm f p), some (.int k), some (.int r)]) m := fun m => by
    rw [ex_whl, ec_lim]
    refine whileL_res (fun kk ρ m' => m' = m ∧ ∃ t : Nat, t + kk = r ∧ ρ = [some (tm f p), some (.int k), some (.int t)]) (fun r' => r' = .ok (.nx [some (tm f p), some (.int k), some (.int r)]) m) ?_ L r _ _ (by omega) ⟨rfl, 0, by omega, rfl⟩
    rintro kk ρ m' ⟨rfl, t, ht, rfl⟩
    obtain ⟨b, hb, iff⟩ := stays_ok hL n f p h t k (by omega) (by omega)
    have hc := gc_ret hb rfl m'
    by_cases c : t = r
    · subst c
      left
      have : b = true := iff.mpr r2
      subst this
      simp [hc]
    · right
      have : b = false := by
        cases b with
        | false => rfl
        | true => exact (r3 t (by omega) (iff.mp rfl)).elim
      subst this
      refine ⟨by simp [hc], .inl ⟨kk - 1, [some (tm f p), some (.int k), some (.int ((t + 1 : Nat) : Int))], m', by omega, by simp, rfl, t + 1, by omega, rfl⟩⟩
  have hbd := fun m => gc_ret (bound_ok hL (n + 2) f p k h0 h1) rfl m
  by_cases c : r = 0
  · subst c
    refine ⟨0, .non, by omega, rfl, fun m => ⟨[], ?_⟩, r2, r3⟩
    rw [callF_succ (zf := z_least_rate) rfl rfl rfl rfl]
    have hm := mk_rate L (n + 3) m (.int 0) .non m.length rfl rfl
    have hl := hloop m
    simp only [Int.natCast_zero] at hl
    simp [z_least_rate, hbd, hl, hm, -ex_whl]
  · obtain ⟨T, hT, hk⟩ := stays_seen f p h ((r - 1 : Nat) : Int) k h0 h1 (r3 (r - 1) (by omega))
    obtain ⟨t, ht⟩ := beyond_ok hL (n + 1) f p h ((r - 1 : Nat) : Int) k T hT hk
    refine ⟨r, .int t, r1, rfl, fun m => ⟨[], ?_⟩, r2, r3⟩
    rw [callF_succ (zf := z_least_rate) rfl rfl rfl rfl]
    have hm := mk_rate L (n + 3) m (.int r) (.int t) m.length rfl rfl
    have hb := gc_ret ht rfl m
    have e : (r : Int) - 1 = ((r - 1 : Nat) : Int) := by omega
    have c' : ¬ (r : Int) = 0 := by omega
    rw [← e] at hb
    simp [z_least_rate, hbd, hloop, hm, -ex_whl, c, hb]
end
end K56
set_option maxHeartbeats 4000000
namespace K56
open PySem Zi
def sumF (f1 p1 f2 p2 : List Int) : List Int := (List.range (max f1.length f2.length)).map fun t => atT f1 p1 t + atT f2 p2 t
def sumP (f1 p1 f2 p2 : List Int) (l : Nat) : List Int := (List.range l).map fun t => atT f1 p1 (max f1.length f2.length + t) + atT f2 p2 (max f1.length f2.length + t)
theorem Per.mod {d : Nat → Int} {F p : Nat} (h : Per d F p) (t : Nat) (ht : F ≤ t) : d (F + (t - F) % p) = d t := by
  have e := h.mul ((t - F) / p) (F + (t - F) % p) (by omega)
  rw [← e]
  congr 1
  have := Nat.mod_add_div (t - F) p
  omega
theorem sum_at (f1 p1 f2 p2 : List Int) (l : Nat) (h1 : p1 ≠ []) (h2 : p2 ≠ []) (hl : l = Nat.lcm p1.length p2.length) (t : Nat) : atT (sumF f1 p1 f2 p2) (sumP f1 p1 f2 p2 l) t = atT f1 p1 t + atT f2 p2 t := by
  have a1 : 0 < p1.length := List.length_pos_iff.mpr h1
  have a2 : 0 < p2.length := List.length_pos_iff.mpr h2
  have hl0 : 0 < l := by rw [hl]; exact Nat.lcm_pos a1 a2
  have hd1 : p1.length ∣ l := by rw [hl]; exact Nat.dvd_lcm_left _ _
  have hd2 : p2.length ∣ l := by rw [hl]; exact Nat.dvd_lcm_right _ _
  have lF : (sumF f1 p1 f2 p2).length = max f1.length f2.length := by unfold sumF; rw [List.length_map, List.length_range]
  have lP : (sumP f1 p1 f2 p2 l).length = l := by unfold sumP; rw [List.length_map, List.length_range]
  obtain ⟨a, ha⟩ := hd1
  obtain ⟨b, hb⟩ := hd2
  have P1 : Per (atT f1 p1) (max f1.length f2.length) l := by rw [ha]; exact ((atT_per f1 p1).mul a).mono (by omega)
  have P2 : Per (atT f2 p2) (max f1.length f2.length) l := by rw [hb]; exact ((atT_per f2 p2).mul b).mono (by omega)
  show (if t < (sumF f1 p1 f2 p2).length then _ else _) = _
  rw [lF, lP]
  by_cases c : t < max f1.length f2.length
  · rw [if_pos c]
    unfold sumF
    rw [List.getElem?_map, List.getElem?_range c]; rfl
  · rw [if_neg c]
    have cm := Nat.mod_lt (t - max f1.length f2.length) hl0
    unfold sumP
    rw [List.getElem?_map, List.getElem?_range cm]
    show atT f1 p1 _ + atT f2 p2 _ = _
    rw [P1.mod t (by omega), P2.mod t (by omega)]
/-- bounds of a timetable -/
structure Tk (fr pe : List Int) (a b : Nat) (c : Int) : Prop where
  pe0 : pe ≠ []
  fl : fr.length ≤ a
  pl : pe.length ≤ b
  f : ∀ i ∈ fr, 0 ≤ i ∧ i ≤ c
  p : ∀ i ∈ pe, 0 ≤ i ∧ i ≤ c
theorem Tk.tok {fr pe : List Int} {a b : Nat} {c : Int} (h : Tk fr pe a b c) (ha : a ≤ 24) (hb : b ≤ 24) (hc : c ≤ 100) : Tok fr pe :=
  ⟨h.pe0, Nat.le_trans h.fl ha, Nat.le_trans h.pl hb, fun i hi => ⟨(h.f i hi).1, Int.le_trans (h.f i hi).2 hc⟩, fun i hi => ⟨(h.p i hi).1, Int.le_trans (h.p i hi).2 hc⟩⟩
theorem Tk.at_le {fr pe : List Int} {a b : Nat} {c : Int} (h : Tk fr pe a b c) (t : Nat) : 0 ≤ atT fr pe t ∧ atT fr pe t ≤ c := by
  have a1 : 0 < pe.length := List.length_pos_iff.mpr h.pe0
  unfold atT
  split
  · rename_i c
    rw [List.getElem?_eq_getElem c, Option.getD_some]
    exact h.f _ (List.getElem_mem c)
  · have c := Nat.mod_lt (t - fr.length) a1
    rw [List.getElem?_eq_getElem c, Option.getD_some]
    exact h.p _ (List.getElem_mem c)
theorem Tk.add {f1 p1 f2 p2 : List Int} {a b : Nat} {c1 c2 : Int} {l B : Nat} (h1 : Tk f1 p1 a b c1) (h2 : Tk f2 p2 a b c2) (hl0 : 0 < l) (hl : l ≤ B) : Tk (sumF f1 p1 f2 p2) (sumP f1 p1 f2 p2 l) a B (c1 + c2) where
  pe0 := fun e => by
    have := congrArg List.length e
    unfold sumP at this
    rw [List.length_map, List.length_range, List.length_nil] at this
    omega
  fl := by unfold sumF; rw [List.length_map, List.length_range]; have := h1.fl; have := h2.fl; omega
  pl := by unfold sumP; rw [List.length_map, List.length_range]; exact hl
  f := fun i hi => by
    obtain ⟨t, _, rfl⟩ := List.mem_map.mp hi
    have := h1.at_le t
    have := h2.at_le t
    omega
  p := fun i hi => by
    obtain ⟨t, _, rfl⟩ := List.mem_map.mp hi
    have := h1.at_le (max f1.length f2.length + t)
    have := h2.at_le (max f1.length f2.length + t)
    omega
theorem range_split (g : Nat → Int) (F l : Nat) : (List.range (F + l)).map g = (List.range F).map g ++ (List.range l).map fun t => g (F + t) := by
  rw [List.range_add, List.map_append, List.map_map]; rfl
theorem cut_lo (A B : List Int) : cutL ((A ++ B).map D.int) none (some (A.length : Int)) = A.map D.int := by
  have h : ¬ (A.length : Int) < 0 := by omega
  unfold cutL cutIx
  simp [h, List.take_left']
theorem cut_hi (A B : List Int) : cutL ((A ++ B).map D.int) (some (A.length : Int)) none = B.map D.int := by
  have h : ¬ (A.length : Int) < 0 := by omega
  unfold cutL cutIx
  simp [h, List.drop_left', List.take_of_length_le]
theorem getL_at {m : MH} {i : Nat} {ds : List D} (h : m[i]? = some (some (.lst ds))) : getL m (.ref i) = some ds := by
  show (match m[i]? with
    | some (some (.lst ds)) => some ds
    | _ => none) = _
  rw [h]
theorem slc_at {m : MH} {i : Nat} {ds : List D} {lo hi : Option Int} (h : m[i]? = some (some (.lst ds))) (hl : ds.length ≤ 1000000) : slcI true (.ref i) lo hi m = .ok (.lst (cutL ds lo hi)) m := by
  show (match getL m (.ref i) with
    | some ds => mkL true (cutL ds lo hi) m
    | none => .bad) = _
  rw [getL_at h]
  refine mkL_ok m _ ?_
  unfold cutL
  rw [List.length_take, List.length_drop]
  omega
theorem new_at (m : MH) (o : Option Ob) : (m ++ [o])[m.length]? = some o := by
  rw [List.getElem?_append_right (Nat.le_refl _), Nat.sub_self]; rfl
section
variable {L : Nat} (hL : 100000 ≤ L)
include hL
theorem summed_ok (n : Nat) (f1 p1 f2 p2 : List Int) (l : Nat) (t1 : Tok f1 p1) (t2 : Tok f2 p2) (hl : l = Nat.lcm p1.length p2.length) :
    Ret (P L) (n + 2) "summed" [.lst [.tup [.lst (f1.map D.int), .lst (p1.map D.int)], .tup [.lst (f2.map D.int), .lst (p2.map D.int)]]] (.tup [.lst ((sumF f1 p1 f2 p2).map D.int), .lst ((sumP f1 p1 f2 p2 l).map D.int)]) := fun m => ⟨[], by
  rw [callF_succ (zf := z_summed) rfl rfl rfl rfl]
  have a1 : 0 < p1.length := List.length_pos_iff.mpr t1.pe0
  have a2 : 0 < p2.length := List.length_pos_iff.mpr t2.pe0
  have b1 := t1.pl
  have b2 := t2.pl
  have b3 := t1.fl
  have b4 := t2.fl
  have hlb : l ≤ 576 := by
    rw [hl]
    exact Nat.le_trans (lcm_small hL a1 a2).2 (Nat.mul_le_mul b1 b2)
  have c1 := gc_ret (common_ok hL n 1 p1.length p1.length (by omega) a1 (by omega) (by omega) (Nat.lcm_one_left _).symm) rfl m
  have c2 := gc_ret (common_ok hL n p1.length p2.length l a1 a2 (by omega) (by omega) hl) rfl m
  simp only [Int.natCast_one] at c1
  obtain ⟨tb, htb⟩ : ∃ tb, tb = D.lst [.tup [.lst (f1.map D.int), .lst (p1.map D.int)], .tup [.lst (f2.map D.int), .lst (p2.map D.int)]] := ⟨_, rfl⟩
  obtain ⟨F, hF⟩ : ∃ F, F = max f1.length f2.length := ⟨_, rfl⟩
  obtain ⟨g, hg⟩ : ∃ g : Nat → Int, g = fun t => atT f1 p1 t + atT f2 p2 t := ⟨_, rfl⟩
  have hFm : max (max (0 : Int) f1.length) f2.length = (F : Int) := by omega
  have hFm' : max (f1.length : Int) f2.length = (F : Int) := by omega
  obtain ⟨o3, ho3⟩ : ∃ o3, o3 = some (D.lst (f2.map D.int)) := ⟨_, rfl⟩
  obtain ⟨o4, ho4⟩ : ∃ o4, o4 = some (D.lst (p2.map D.int)) := ⟨_, rfl⟩
  have hr := rng1 (n := F + l) (by omega)
  have key := forL_inv (same := sameB []) (turn := fun d ρ m' => (asgT (ecOf (P L) m.length (callF (P L) (n + 1))) (.nm 6) d ρ m').st ρ fun ρ m' => exs (ecOf (P L) m.length (callF (P L) (n + 1))) [.exp (.bmt .append true (.var 5) [.blt .sum true [.lc true [3, 4] (.call false "number_at" [.var 3, .var 4, .var 6]) (.mk (.tp [.nm 3, .nm 4]) (.seq (.var 0)) [])]])] ρ m')
    (I := fun done ρ m' => ∃ o, ρ = [some tb, some (.int F), some (.int l), o3, o4, some (.ref m.length), o] ∧ m' = m ++ [some (.lst (((List.range done.length).map g).map D.int))])
    ((List.range (F + l)).map fun (k : Nat) => D.int k) (fun _ _ _ _ => rfl) (fun done dd rest ρ m' hall hI => ?_) ((List.range (F + l)).map fun (k : Nat) => D.int k) [] _ _ rfl ⟨none, rfl, rfl⟩
  · obtain ⟨ρ', m', e1, o, e2, e3⟩ := key
    rw [List.length_map, List.length_range] at e3
    have hw : ex (ecOf (P L) m.length (callF (P L) (n + 1))) (.for (.nm 6) (.rng [.bin .Add true (.var 1) (.var 2)]) [.exp (.bmt .append true (.var 5) [.blt .sum true [.lc true [3, 4] (.call false "number_at" [.var 3, .var 4, .var 6]) (.mk (.tp [.nm 3, .nm 4]) (.seq (.var 0)) [])]])]) [some tb, some (.int F), some (.int l), o3, o4, some (.ref m.length), none] (m ++ [some (.lst [])]) = .ok (.nx [some tb, some (.int F), some (.int l), o3, o4, some (.ref m.length), o]) (m ++ [some (.lst (((List.range (F + l)).map g).map D.int))]) := by
      rw [← e2, ← e3, ← e1, ex_for]
      simp only [Int.natCast_add] at hr
      simp only [evI_rng, evs_cons, ev_bin, ev_var, evs_nil, List.getElem?_cons_succ, List.getElem?_cons_zero, Option.getD_some, ofO_some, R.bind_ok, bin_add, hr, R.st_ok]
      rfl
    have hw1 : ex (ecOf (P L) m.length (callF (P L) (n + 1))) (.for (.tp [.nm 3, .nm 4]) (.seq (.var 0)) [.asg (.nm 1) (.blt .max2 true [.var 1, .blt .len true [.var 3]]), .asg (.nm 2) (.call false "common" [.var 2, .blt .len true [.var 4]])]) [some tb, some (.int 0), some (.int 1), none, none, none, none] m = .ok (.nx [some tb, some (.int F), some (.int l), o3, o4, none, none]) m := by
      rw [ex_for, htb, ho3, ho4]
      simp [forL, c1, c2, sameB, hFm, hFm']
    have split := range_split g F l
    have eA : (List.range F).map g = sumF f1 p1 f2 p2 := by rw [hg, hF]; rfl
    have eB : ((List.range l).map fun t => g (F + t)) = sumP f1 p1 f2 p2 l := by rw [hg, hF]; rfl
    have hA : (sumF f1 p1 f2 p2).length = F := by unfold sumF; rw [List.length_map, List.length_range, hF]
    rw [split, eA, eB] at hw
    obtain ⟨m2, hm2⟩ : ∃ m2, m2 = m ++ [some (Ob.lst ((sumF f1 p1 f2 p2 ++ sumP f1 p1 f2 p2 l).map D.int))] := ⟨_, rfl⟩
    have hat : m2[m.length]? = some (some (.lst ((sumF f1 p1 f2 p2 ++ sumP f1 p1 f2 p2 l).map D.int))) := by rw [hm2]; exact new_at m _
    have lB : (sumP f1 p1 f2 p2 l).length = l := by unfold sumP; rw [List.length_map, List.length_range]
    have hlen : ((sumF f1 p1 f2 p2 ++ sumP f1 p1 f2 p2 l).map D.int).length ≤ 1000000 := by
      rw [List.length_map, List.length_append, hA, lB]; omega
    have s1 := slc_at (lo := none) (hi := some (F : Int)) hat hlen
    have s2 := slc_at (lo := some (F : Int)) (hi := none) hat hlen
    rw [← hA, cut_lo, hA] at s1
    rw [← hA, cut_hi, hA] at s2
    rw [← hm2] at hw
    have hf := frz_pureD (base := m.length) (d := .tup [.lst ((sumF f1 p1 f2 p2).map D.int), .lst ((sumP f1 p1 f2 p2 l).map D.int)]) (m := m2) (by show (pures ((sumF f1 p1 f2 p2).map D.int) && (pures ((sumP f1 p1 f2 p2 l).map D.int) && true)) = true; rw [ints_pure, ints_pure]; rfl)
    have ht : m2.take m.length = m := by rw [hm2, List.take_left]
    rw [ht] at hf
    rw [← htb]
    simp [z_summed, mkT, SZ, mkL, hw, hw1, s1, s2, hf, slcD, optI, -ex_for]
  · obtain ⟨o, rfl, rfl⟩ := hI
    obtain ⟨rfl, hk, _⟩ := range_at hall
    obtain ⟨k, hk0⟩ : ∃ k, done.length = k := ⟨_, rfl⟩
    rw [hk0] at hk ⊢
    refine ⟨[some tb, some (.int F), some (.int l), o3, o4, some (.ref m.length), some (.int k)], m ++ [some (.lst (((List.range (k + 1)).map g).map D.int))], ?_, some (.int k), rfl, by rw [List.length_append, hk0]; rfl⟩
    have hap := append_new (base := m.length) (fz := true) (m := m) (ds := ((List.range k).map g).map D.int) (y := .int (g k)) (by rw [List.length_map, List.length_map, List.length_range]; omega) (Nat.le_refl _)
    have hkn := kind_new (m := m) (ds := ((List.range k).map g).map D.int)
    have n1 : ∀ M1 : MH, _ := fun M1 => gc_ret (number_at_ok hL n f1 p1 k t1.pe0) rfl M1
    have n2 : ∀ M1 : MH, _ := fun M1 => gc_ret (number_at_ok hL n f2 p2 k t2.pe0) rfl M1
    have es : ∀ M1 : MH, ev (ecOf (P L) m.length (callF (P L) (n + 1))) (.blt .sum true [.lc true [3, 4] (.call false "number_at" [.var 3, .var 4, .var 6]) (.mk (.tp [.nm 3, .nm 4]) (.seq (.var 0)) [])]) [some tb, some (.int F), some (.int l), o3, o4, some (.ref m.length), some (.int k)] M1 = .ok (.int (g k)) M1 := fun M1 => by
      have := blt_sum (m := M1) true [atT f1 p1 k, atT f2 p2 k]
      simp only [List.map_cons, List.map_nil] at this
      rw [htb]
      simp [compL, lcTurn, wipeE, sameB, n1 M1, n2 M1, SZ, mkL, this, hg]
    rw [List.range_succ, List.map_append, List.map_append]
    simp [hap, hkn, bmT, es, -ev_blt, -List.map_map]⟩
end
end K56
set_option maxHeartbeats 4000000
namespace K56
open PySem Zi
def needL (f1 p1 f2 p2 : List Int) (M : Nat) : List Int := (List.range M).map fun t => qs (dif f1 p1 f2 p2) t + atT f1 p1 t
theorem needL_len (f1 p1 f2 p2 : List Int) (M : Nat) : (needL f1 p1 f2 p2 M).length = M := by unfold needL; rw [List.length_map, List.length_range]
theorem before_eq (d : Nat → Int) (M : Nat) : (0 : Int) :: lagL d M = (List.range (M + 1)).map (qs d) := by
  unfold lagL
  rw [List.range_succ_eq_map, List.map_cons, List.map_map]; rfl
theorem bin_addL {fz : Bool} {as bs : List D} {m : MH} (h : as.length + bs.length ≤ 1000000) : binD .Add fz (.lst as) (.lst bs) m = .ok (if fz then .lst (as ++ bs) else .ref m.length) (if fz then m else m ++ [some (.lst (as ++ bs))]) := by
  have h2 : (as ++ bs).length ≤ SZ := by rw [List.length_append]; show _ ≤ 16777216; omega
  show mkL fz (as ++ bs) m = _
  unfold mkL
  rw [if_pos h2]
  cases fz <;> rfl
theorem nfs_ints : ∀ l : List Int, nfs (l.map D.int) = some (l.map K2.num)
  | [] => rfl
  | i :: l => by
    show (match nf (.int i), nfs (l.map D.int) with
      | some k, some ks => some (k :: ks)
      | _, _ => none) = _
    rw [nfs_ints l]; rfl
theorem fits_nums : ∀ l : List Int, K2.fits (l.map K2.num) 60 = true
  | [] => rfl
  | i :: l => by
    show (K2.fit (.num i) 60 && K2.fits (l.map K2.num) 60) = true
    rw [fits_nums l]; rfl
theorem in_ints (x : Int) (l : List Int) (m : MH) : cmpD .In (.int x) (.lst (l.map D.int)) m = some (decide (x ∈ l)) := by
  show (match nf (.int x), nfs (l.map D.int) with
      | some k, some ks => if k.fit 60 = true ∧ K2.fits ks 60 = true then some (decide (k ∈ ks)) else none
      | _, _ => none) = _
  rw [nfs_ints]
  show (if (K2.num x).fit 60 = true ∧ K2.fits (l.map K2.num) 60 = true then some (decide (K2.num x ∈ l.map K2.num)) else none) = _
  rw [if_pos ⟨rfl, fits_nums l⟩]
  congr 1
  have : K2.num x ∈ l.map K2.num ↔ x ∈ l := by
    rw [List.mem_map]
    constructor
    · rintro ⟨y, hy, e⟩
      injection e with e
      exact e ▸ hy
    · intro h; exact ⟨x, h, rfl⟩
  exact decide_eq_decide.mpr this
theorem min1 (fz : Bool) (a b : Int) (m : MH) : bltD .minT fz [.lst [.tup [.int a, .int b]]] m = .ok (.tup [.int a, .int b]) m := rfl
theorem min2 (a b c d : Int) : ∃ x y, ((x = a ∧ y = b) ∨ (x = c ∧ y = d)) ∧ ∀ (fz : Bool) (m : MH), bltD .minT fz [.lst [.tup [.int a, .int b], .tup [.int c, .int d]]] m = .ok (.tup [.int x, .int y]) m := by
  have e : ∀ (fz : Bool) (m : MH), bltD .minT fz [.lst [.tup [.int a, .int b], .tup [.int c, .int d]]] m = .ok ((([(PyData.tuple [.int c, .int d], D.tup [.int c, .int d])] : List (PyData × D)).foldl (fun a y => if PySem.W.dataLt y.1 a.1 = true then y else a) (PyData.tuple [.int a, .int b], D.tup [.int a, .int b])).2) m := fun _ _ => rfl
  by_cases h : PySem.W.dataLt (PyData.tuple [.int c, .int d]) (PyData.tuple [.int a, .int b]) = true
  · refine ⟨c, d, .inr ⟨rfl, rfl⟩, fun fz m => ?_⟩
    rw [e, List.foldl_cons, List.foldl_nil, if_pos h]
  · refine ⟨a, b, .inl ⟨rfl, rfl⟩, fun fz m => ?_⟩
    rw [e, List.foldl_cons, List.foldl_nil, if_neg h]
theorem same_ref {m : MH} {i : Nat} {o : Ob} (h : m[i]? = some (some o)) : sameB (lockOf m (.ref i)) m = true := by
  have e : lockOf m (.ref i) = [(i, o)] := by
    show (match m[i]? with
    | some (some o) => [(i, o)]
    | _ => []) = _
    rw [h]
  rw [e]
  show ((match m[i]? with
  | some (some o') => sameOb o o'
  | _ => false) && true) = true
  rw [h]
  simp [sameOb_self]
section
variable {L : Nat} (hL : 100000 ≤ L)
include hL
theorem add_ok (n : Nat) (f1 p1 f2 p2 : List Int) (l : Nat) (t1 : Tok f1 p1) (t2 : Tok f2 p2) (t3 : Tok (sumF f1 p1 f2 p2) (sumP f1 p1 f2 p2 l)) (hl : l = Nat.lcm p1.length p2.length) :
    Ret (P L) (n + 4) "Times.__add__" [tm f1 p1, tm f2 p2] (tm (sumF f1 p1 f2 p2) (sumP f1 p1 f2 p2 l)) := fun m => ⟨[], by
  rw [callF_succ (zf := z_Times___add__) rfl rfl rfl rfl]
  have c1 := gc_ret (summed_ok hL (n + 1) f1 p1 f2 p2 l t1 t2 hl) (by show (pures ((sumF f1 p1 f2 p2).map D.int) && (pures ((sumP f1 p1 f2 p2 l).map D.int) && true)) = true; rw [ints_pure, ints_pure]; rfl) m
  have c2 := mk_times hL n m m.length _ _ t3
  have ml := mkL_ok m [.tup [.lst (f1.map D.int), .lst (p1.map D.int)], .tup [.lst (f2.map D.int), .lst (p2.map D.int)]] (by show 2 ≤ 16777216; omega)
  simp [z_Times___add__, mkT, SZ, ml, c1, c2]⟩
theorem own_add (n b : Nat) (f1 p1 f2 p2 : List Int) (l : Nat) (t1 : Tok f1 p1) (t2 : Tok f2 p2) (t3 : Tok (sumF f1 p1 f2 p2) (sumP f1 p1 f2 p2 l)) (hl : l = Nat.lcm p1.length p2.length) (m : MH) (xs : MH → R (List D)) (hx : xs m = .ok [tm f2 p2] m) :
    ownR (ecOf (P L) b (callF (P L) (n + 4))) false "__add__" (tm f1 p1) xs m = .ok (tm (sumF f1 p1 f2 p2) (sumP f1 p1 f2 p2 l)) m := by
  show (xs m).bind (fun ys m => if ownPre "__add__" "Times" (tm f1 p1) ys m = true then ((gcR m.length false (callF (P L) (n + 4) m.length "Times.__add__" (tm f1 p1 :: ys) m)).nox).bind (ownPost "__add__") else .bad) = _
  rw [hx, R.bind_ok, if_pos (show ownPre "__add__" "Times" (tm f1 p1) [tm f2 p2] m = true from rfl), gc_ret (add_ok hL n f1 p1 f2 p2 l t1 t2 t3 hl) (tm_pure _ _)]
  rfl
theorem needs_ok (n : Nat) (f1 p1 f2 p2 : List Int) (M : Nat) (h1 : p1 ≠ []) (h2 : p2 ≠ []) (hM : M < 100000) :
    Ret (P L) (n + 4) "needs" [tm f1 p1, tm f2 p2, .int M] (.lst ((needL f1 p1 f2 p2 M).map D.int)) := fun m => ⟨[], by
  rw [callF_succ (zf := z_needs) rfl rfl rfl rfl]
  have c1 := gc_ret (lags_ok hL n f1 p1 f2 p2 M h1 h2 (by omega)) (ints_pure _) m
  have ml := mkL_ok m [.int 0] (by show 1 ≤ 16777216; omega)
  have ba := bin_addL (fz := true) (as := [.int 0]) (bs := (lagL (dif f1 p1 f2 p2) M).map D.int) (m := m) (by rw [List.length_map, lagL_len]; show 1 + M ≤ _; omega)
  have eb : [D.int 0] ++ (lagL (dif f1 p1 f2 p2) M).map D.int = (((List.range (M + 1)).map (qs (dif f1 p1 f2 p2))).map D.int) := by rw [← before_eq]; rfl
  rw [eb] at ba
  have hr := rng1 (n := M) (by omega)
  have hc : compL (sameB []) (lcTurn (ecOf (P L) m.length (callF (P L) (n + 3))) [4] (.nm 4) [] (.bin .Add true (.sub (.var 3) (.var 4)) (.met false "at" (.var 0) [.var 4])) [some (tm f1 p1), some (tm f2 p2), some (.int M), some (.lst (((List.range (M + 1)).map (qs (dif f1 p1 f2 p2))).map D.int)), none]) ((List.range M).map fun (k : Nat) => D.int k) [] m = .ok ([] ++ ((List.range M).map fun (k : Nat) => D.int k).map fun d => match d with
      | .int k => .int (qs (dif f1 p1 f2 p2) k.toNat + atT f1 p1 k.toNat)
      | d => d) m := by
    refine compL_map rfl _ _ _ (fun d hd => ?_) (by rw [List.length_map, List.length_range]; show 0 + M ≤ 16777216; omega)
    obtain ⟨k, hk, rfl⟩ := List.mem_map.mp hd
    have hk2 := List.mem_range.mp hk
    have ha := gc_ret (at_ok hL (n + 1) f1 p1 k h1) rfl m
    have hs := sub_ints m (l := (List.range (M + 1)).map (qs (dif f1 p1 f2 p2))) (t := k) (by rw [List.length_map, List.length_range]; omega)
    have hg : ((List.range (M + 1)).map (qs (dif f1 p1 f2 p2)))[k]?.getD 0 = qs (dif f1 p1 f2 p2) k := by
      rw [List.getElem?_map, List.getElem?_range (by omega)]; rfl
    rw [hg] at hs
    simp [lcTurn, wipeE, ha, hs, -List.map_map]
  have e2 : (((List.range M).map fun (k : Nat) => D.int k).map fun d => match d with
      | .int k => D.int (qs (dif f1 p1 f2 p2) k.toNat + atT f1 p1 k.toNat)
      | d => d) = (needL f1 p1 f2 p2 M).map D.int := by
    unfold needL
    rw [List.map_map, List.map_map]; rfl
  rw [List.nil_append, e2] at hc
  have ml2 := mkL_ok m ((needL f1 p1 f2 p2 M).map D.int) (by rw [List.length_map, needL_len]; omega)
  simp [z_needs, ml, c1, ba, hr, hc, ml2, -List.map_map]⟩
theorem groups1_ok (n : Nat) (f p f1 p1 : List Int) : Ret (P L) (n + 2) "check_groups" [tm f p, .lst [tm f1 p1]] .non := fun m => ⟨[], by
  rw [callF_succ (zf := z_check_groups) rfl rfl rfl rfl]
  have c1 := gc_ret (check_times_ok hL n f p) rfl m
  have c2 := gc_ret (check_times_ok hL n f1 p1) rfl m
  simp [z_check_groups, c1, c2, forL, sameB]⟩
theorem groups2_ok (n : Nat) (f p f1 p1 f2 p2 : List Int) : Ret (P L) (n + 2) "check_groups" [tm f p, .lst [tm f1 p1, tm f2 p2]] .non := fun m => ⟨[], by
  rw [callF_succ (zf := z_check_groups) rfl rfl rfl rfl]
  have c1 := gc_ret (check_times_ok hL n f p) rfl m
  have c2 := gc_ret (check_times_ok hL n f1 p1) rfl m
  have c3 := gc_ret (check_times_ok hL n f2 p2) rfl m
  simp [z_check_groups, c1, c2, c3, forL, sameB]⟩
end
end K56
namespace K56
open PySem Zi
def firstAt (x : Int) (a b : List Int) (g : Nat) : Prop := (g = 0 ∧ x ∈ a) ∨ (g = 1 ∧ x ∈ b)
section
variable {L : Nat} (hL : 100000 ≤ L)
include hL
theorem first1_ok (n : Nat) (a : List Int) (x : Int) (hx : x ∈ a) : ∃ j : Nat, ∀ (m : MH) (i : Nat), m[i]? = some (some (.lst [.lst (a.map D.int)])) → callF (P L) (n + 1) m.length "first_with" [.ref i, .int x] m = .ok (.tup [.int 0, .int j]) m := by
  obtain ⟨j, hix, _⟩ := index_ok hx
  refine ⟨j, fun m i hi => ?_⟩
  rw [callF_succ (zf := z_first_with) rfl rfl rfl rfl]
  have hg := getL_at hi
  have hin := in_ints x a m
  have ml := mkL_ok m [.tup [.int j, .int 0]] (by show 1 ≤ 16777216; omega)
  have h1 := min1 true j 0 m
  have hs := same_ref hi
  simp [z_first_with, hg, hin, hx, enumD, compL, lcTurn, wipeE, hs, hix, bmT, mkT, SZ, ml, h1]
theorem first2_ok (n : Nat) (a b : List Int) (x : Int) (hx : x ∈ a ∨ x ∈ b) : ∃ g j : Nat, firstAt x a b g ∧ ∀ (m : MH) (i : Nat), m[i]? = some (some (.lst [.lst (a.map D.int), .lst (b.map D.int)])) → callF (P L) (n + 1) m.length "first_with" [.ref i, .int x] m = .ok (.tup [.int g, .int j]) m := by
  by_cases ha : x ∈ a
  · obtain ⟨j, hix, _⟩ := index_ok ha
    by_cases hb : x ∈ b
    · obtain ⟨j2, hix2, _⟩ := index_ok hb
      obtain ⟨u, v, huv, h1⟩ := min2 j 0 j2 1
      obtain ⟨g, w, e1, e2, hf⟩ : ∃ g w : Nat, v = g ∧ u = w ∧ firstAt x a b g := by
        rcases huv with ⟨rfl, rfl⟩ | ⟨rfl, rfl⟩
        · exact ⟨0, j, rfl, rfl, .inl ⟨rfl, ha⟩⟩
        · exact ⟨1, j2, rfl, rfl, .inr ⟨rfl, hb⟩⟩
      refine ⟨g, w, hf, fun m i hi => ?_⟩
      rw [e1, e2] at h1
      rw [callF_succ (zf := z_first_with) rfl rfl rfl rfl]
      have hg := getL_at hi
      have hin := in_ints x a m
      have hin2 := in_ints x b m
      have ml := mkL_ok m [.tup [.int j, .int 0], .tup [.int j2, .int 1]] (by show 2 ≤ 16777216; omega)
      have hs := same_ref hi
      simp [z_first_with, hg, hin, hin2, ha, hb, enumD, compL, lcTurn, wipeE, hs, hix, hix2, bmT, mkT, SZ, ml, h1]
    · refine ⟨0, j, .inl ⟨rfl, ha⟩, fun m i hi => ?_⟩
      rw [callF_succ (zf := z_first_with) rfl rfl rfl rfl]
      have hg := getL_at hi
      have hin := in_ints x a m
      have hin2 := in_ints x b m
      have ml := mkL_ok m [.tup [.int j, .int 0]] (by show 1 ≤ 16777216; omega)
      have h1 := min1 true j 0 m
      have hs := same_ref hi
      simp [z_first_with, hg, hin, hin2, ha, hb, enumD, compL, lcTurn, wipeE, hs, hix, bmT, mkT, SZ, ml, h1]
  · have hb : x ∈ b := hx.resolve_left ha
    obtain ⟨j, hix, _⟩ := index_ok hb
    refine ⟨1, j, .inr ⟨rfl, hb⟩, fun m i hi => ?_⟩
    rw [callF_succ (zf := z_first_with) rfl rfl rfl rfl]
    have hg := getL_at hi
    have hin := in_ints x a m
    have hin2 := in_ints x b m
    have ml := mkL_ok m [.tup [.int j, .int 1]] (by show 1 ≤ 16777216; omega)
    have h1 := min1 true j 1 m
    have hs := same_ref hi
    simp [z_first_with, hg, hin, hin2, ha, hb, enumD, compL, lcTurn, wipeE, hs, hix, bmT, mkT, SZ, ml, h1]
end
end K56
set_option maxHeartbeats 4000000
namespace K56
open PySem Zi
theorem needL_ne {f p f1 p1 : List Int} {M : Nat} (h : 0 < M) : needL f p f1 p1 M ≠ [] := fun e => by
  have := congrArg List.length e
  rw [needL_len, List.length_nil] at this
  omega
structure LSide (f p f1 p1 : List Int) (l M : Nat) : Prop where
  hl : l = Nat.lcm p.length p1.length
  hl0 : 0 < l
  hlb : l ≤ 576
  hM : (M : Int) = (max f.length f1.length : Nat) + 2 * (l : Int)
  hM0 : 0 < M
  hMb : M < 10000
/-- what a group needs -/
def Nd (f p f1 p1 : List Int) (o : Option Int) : Prop := match o with
  | none => LagOf (dif f p f1 p1) none
  | some v => ∃ l M, LSide f p f1 p1 l M ∧ v = mx (needL f p f1 p1 M) ∧ LagOf (dif f p f1 p1) (some (mx (lagL (dif f p f1 p1) M)))
theorem lside (f p f1 p1 : List Int) (t : Tok f p) (t1 : Tok f1 p1) : ∃ l M, LSide f p f1 p1 l M := by
  obtain ⟨l, hl⟩ : ∃ l, l = Nat.lcm p.length p1.length := ⟨_, rfl⟩
  have a1 : 0 < p.length := List.length_pos_iff.mpr t.pe0
  have a2 : 0 < p1.length := List.length_pos_iff.mpr t1.pe0
  have b1 := t.pl
  have b2 := t1.pl
  have c1 := t.fl
  have c2 := t1.fl
  have q : 0 < Nat.lcm p.length p1.length ∧ Nat.lcm p.length p1.length ≤ p.length * p1.length := ⟨Nat.lcm_pos a1 a2, Nat.le_of_dvd (Nat.mul_pos a1 a2) (Nat.lcm_dvd_mul _ _)⟩
  have hlb : l ≤ 576 := by
    rw [hl]
    exact Nat.le_trans q.2 (Nat.mul_le_mul b1 b2)
  have hl0 : 0 < l := by rw [hl]; exact q.1
  exact ⟨l, max f.length f1.length + 2 * l, hl, hl0, hlb, by omega, by omega, by omega⟩
theorem LSide.eqM {f p f1 p1 : List Int} {l M : Nat} (h : LSide f p f1 p1 l M) : M = max f.length f1.length + 2 * l := by have := h.hM; omega
theorem nd_none {f p f1 p1 : List Int} {l M : Nat} (t : Tok f p) (t1 : Tok f1 p1) (h : LSide f p f1 p1 l M) (g : 0 < gro p p1 l) : Nd f p f1 p1 none := by
  refine lag_none t.pe0 t1.pe0 ?_ ?_ h.hl0 g
  · rw [h.hl]; exact Nat.dvd_lcm_left _ _
  · rw [h.hl]; exact Nat.dvd_lcm_right _ _
theorem nd_some {f p f1 p1 : List Int} {l M : Nat} (t : Tok f p) (t1 : Tok f1 p1) (h : LSide f p f1 p1 l M) (g : gro p p1 l ≤ 0) : Nd f p f1 p1 (some (mx (needL f p f1 p1 M))) := by
  refine ⟨l, M, h, rfl, ?_⟩
  rw [h.eqM]
  refine lag_some t.pe0 t1.pe0 ?_ ?_ h.hl0 g
  · rw [h.hl]; exact Nat.dvd_lcm_left _ _
  · rw [h.hl]; exact Nat.dvd_lcm_right _ _
theorem gc_same {r : R D} {d : D} {m : MH} (h : r = .ok d m) (hp : pure d = true) : gcR m.length false r = .ok d m := by
  rw [h]
  show gc m.length d m = _
  unfold gc
  rw [if_pos (pure_below _ d hp), List.take_length]
@[simp] theorem getL_lst (m : MH) (ds : List D) : getL m (.lst ds) = some ds := rfl
theorem seq_new (m : MH) (ds : List D) : seqD (m ++ [some (.lst ds)]) (.ref m.length) = some ds := by
  have := getL_at (new_at m (some (.lst ds)))
  simp [seqD, getS, this]
section
variable {L : Nat} (hL : 100000 ≤ L)
include hL
theorem keep1_ok (n : Nat) (f p f1 p1 : List Int) (t : Tok f p) (t1 : Tok f1 p1) :
    ∃ (o : Option Int) (x y : D), Nd f p f1 p1 o ∧ pure x = true ∧ pure y = true ∧ Ret (P L) (n + 5) "least_keeping" [tm f p, .lst [tm f1 p1]] (match o with
      | some v => keepI (.int v) x y
      | none => groI x y) := by
  obtain ⟨l, M, h⟩ := lside f p f1 p1 t t1
  have hck := fun m => gc_ret (groups1_ok hL (n + 2) f p f1 p1) rfl m
  have hg := fun m => gc_ret (growth_ok hL (n + 1) f p f1 p1 l t t1 h.hl) rfl m
  have hj := fun m => gc_ret (joint_ok hL (n + 2) f p f1 p1 l t.pe0 t1.pe0 t.pl t1.pl h.hl) rfl m
  by_cases c : 0 < gro p p1 l
  · refine ⟨none, .int (gro p p1 l), .int l, nd_none t t1 h c, rfl, rfl, fun m => ⟨[some (.lst [])], ?_⟩⟩
    rw [callF_succ (zf := z_least_keeping) rfl rfl rfl rfl]
    have hm := fun M1 => mk_gro L (n + 3) M1 (.int (gro p p1 l)) (.int l) m.length rfl rfl
    simp [z_least_keeping, hck, hg, c, hm, enumD, forL, mkL, SZ, -List.length_append]
  · have hnd := fun m => gc_ret (needs_ok hL n f p f1 p1 M t.pe0 t1.pe0 (by have := h.hMb; omega)) (ints_pure _) m
    have hne : needL f p f1 p1 M ≠ [] := needL_ne h.hM0
    have hmx := fun m => blt_mx (fz := true) hne m
    have nd := nd_some t t1 h (by omega)
    have hmem := mx_mem hne
    generalize needL f p f1 p1 M = N at *
    obtain ⟨v, hv⟩ : ∃ v, v = mx N := ⟨_, rfl⟩
    rw [← hv] at hmx hmem nd
    obtain ⟨j, hj1⟩ := first1_ok hL (n + 3) N v hmem
    refine ⟨some v, .int j, .int 0, nd, rfl, rfl, fun m => ⟨[some (.lst [.lst (N.map D.int)])], ?_⟩⟩
    rw [callF_succ (zf := z_least_keeping) rfl rfl rfl rfl]
    have hm := fun M1 => mk_keep L (n + 3) M1 (.int v) (.int j) (.int 0) m.length rfl rfl rfl
    have m2 := fun M1 => mul_ok M1 2 l (by omega) (by omega) true
    have e := h.hM
    have ml := fun M1 => mkL_ok M1 [tm f p, tm f1 p1] (by show 2 ≤ 16777216; omega)
    have ml1 := fun M1 => mkL_ok M1 [.int v] (by show 1 ≤ 16777216; omega)
    have hap := append_new (base := m.length) (fz := true) (m := m) (ds := []) (y := .lst (N.map D.int)) (by show 0 < 16777216; omega) (Nat.le_refl _)
    have hkn := kind_new (m := m) (ds := [])
    have hnew := new_at m (some (.lst [.lst (N.map D.int)]))
    have hsq := seq_new m [.lst (N.map D.int)]
    have hsame := same_ref hnew
    have hf := gc_same (hj1 _ _ hnew) rfl
    have hx : ∀ M1 : MH, bltD .maxL true [.lst [.int v]] M1 = .ok (.int v) M1 := fun M1 => blt_maxL true v []
    generalize hF : max f.length f1.length = F at *
    have ml0 : mkL false [] m = .ok (.ref m.length) (m ++ [some (.lst [])]) := rfl
    have e : (F : Int) + 2 * (l : Int) = (M : Int) := by omega
    rw [List.nil_append] at hap
    generalize hm1 : m ++ [some (Ob.lst [D.lst (N.map D.int)])] = m1 at *
    simp [z_least_keeping, hck, hg, hj, c, hm, enumD, forL, ml0, ml, ml1, m2, e, hnd, hap, hkn, bmT, sub_tup0, hsq, compL, lcTurn, wipeE, hsame, hmx, hx, hf, mkL, SZ, -List.length_append]
theorem keep2_ok (n : Nat) (f p f1 p1 f2 p2 : List Int) (t : Tok f p) (t1 : Tok f1 p1) (t2 : Tok f2 p2) :
    ∃ (o1 o2 : Option Int) (x y : D), Nd f p f1 p1 o1 ∧ Nd f p f2 p2 o2 ∧ pure x = true ∧ pure y = true ∧ (∀ a b, o1 = some a → o2 = some b → ∃ g : Nat, y = .int g ∧ (g = 0 → max a b = a)) ∧ Ret (P L) (n + 5) "least_keeping" [tm f p, .lst [tm f1 p1, tm f2 p2]] (match o1, o2 with
      | some a, some b => keepI (.int (max a b)) x y
      | _, _ => groI x y) := by
  obtain ⟨l, M, h⟩ := lside f p f1 p1 t t1
  obtain ⟨l', M', h'⟩ := lside f p f2 p2 t t2
  have hck := fun m => gc_ret (groups2_ok hL (n + 2) f p f1 p1 f2 p2) rfl m
  have hg := fun m => gc_ret (growth_ok hL (n + 1) f p f1 p1 l t t1 h.hl) rfl m
  have hj := fun m => gc_ret (joint_ok hL (n + 2) f p f1 p1 l t.pe0 t1.pe0 t.pl t1.pl h.hl) rfl m
  have hg' := fun m => gc_ret (growth_ok hL (n + 1) f p f2 p2 l' t t2 h'.hl) rfl m
  have hj' := fun m => gc_ret (joint_ok hL (n + 2) f p f2 p2 l' t.pe0 t2.pe0 t.pl t2.pl h'.hl) rfl m
  by_cases c : 0 < gro p p1 l
  · have : ∃ o2, Nd f p f2 p2 o2 := by
      by_cases c' : 0 < gro p p2 l'
      · exact ⟨_, nd_none t t2 h' c'⟩
      · exact ⟨_, nd_some t t2 h' (by omega)⟩
    obtain ⟨o2, ho2⟩ := this
    refine ⟨none, o2, .int (gro p p1 l), .int l, nd_none t t1 h c, ho2, rfl, rfl, (by intro a b ea eb; cases ea), fun m => ⟨[some (.lst [])], ?_⟩⟩
    rw [callF_succ (zf := z_least_keeping) rfl rfl rfl rfl]
    have hm := fun M1 => mk_gro L (n + 3) M1 (.int (gro p p1 l)) (.int l) m.length rfl rfl
    simp [z_least_keeping, hck, hg, c, hm, enumD, forL, mkL, SZ, -List.length_append]
  have hnd := fun m => gc_ret (needs_ok hL n f p f1 p1 M t.pe0 t1.pe0 (by have := h.hMb; omega)) (ints_pure _) m
  have hne : needL f p f1 p1 M ≠ [] := needL_ne h.hM0
  have hmx := fun m => blt_mx (fz := true) hne m
  have nd := nd_some t t1 h (by omega)
  have hmem := mx_mem hne
  have hle := fun x => mx_le (l := needL f p f1 p1 M) (x := x)
  generalize needL f p f1 p1 M = N at *
  obtain ⟨v, hv⟩ : ∃ v, v = mx N := ⟨_, rfl⟩
  rw [← hv] at hmx hmem nd hle
  have m2 := fun M1 => mul_ok M1 2 l (by omega) (by omega) true
  have e := h.hM
  have ml := fun M1 => mkL_ok M1 [tm f p, tm f1 p1] (by show 2 ≤ 16777216; omega)
  generalize hF : max f.length f1.length = F at *
  have e : (F : Int) + 2 * (l : Int) = (M : Int) := by omega
  have hap : ∀ m : MH, _ := fun m => append_new (base := m.length) (fz := true) (m := m) (ds := []) (y := .lst (N.map D.int)) (by show 0 < 16777216; omega) (Nat.le_refl _)
  simp only [List.nil_append] at hap
  have hkn : ∀ m : MH, _ := fun m => kind_new (m := m) (ds := [])
  have ml0 : ∀ m : MH, mkL false [] m = .ok (.ref m.length) (m ++ [some (.lst [])]) := fun _ => rfl
  by_cases c' : 0 < gro p p2 l'
  · refine ⟨some v, none, .int (gro p p2 l'), .int l', nd, nd_none t t2 h' c', rfl, rfl, (by intro a b ea eb; cases eb), fun m => ⟨[some (.lst [.lst (N.map D.int)])], ?_⟩⟩
    rw [callF_succ (zf := z_least_keeping) rfl rfl rfl rfl]
    have hm := fun M1 => mk_gro L (n + 3) M1 (.int (gro p p2 l')) (.int l') m.length rfl rfl
    have hap := hap m
    generalize hm1 : m ++ [some (Ob.lst [D.lst (N.map D.int)])] = m1 at *
    simp [z_least_keeping, hck, hg, hj, c, hg', c', hm, enumD, forL, ml0, ml, m2, e, hnd, hap, hkn, bmT, sub_tup0, mkL, SZ, -List.length_append]
  have hnd' := fun m => gc_ret (needs_ok hL n f p f2 p2 M' t.pe0 t2.pe0 (by have := h'.hMb; omega)) (ints_pure _) m
  have hne' : needL f p f2 p2 M' ≠ [] := needL_ne h'.hM0
  have hmx' := fun m => blt_mx (fz := true) hne' m
  have nd' := nd_some t t2 h' (by omega)
  have hmem' := mx_mem hne'
  generalize needL f p f2 p2 M' = N' at *
  obtain ⟨v', hv'⟩ : ∃ v', v' = mx N' := ⟨_, rfl⟩
  rw [← hv'] at hmx' hmem' nd'
  have m2' := fun M1 => mul_ok M1 2 l' (by omega) (by omega) true
  have e' := h'.hM
  have ml' := fun M1 => mkL_ok M1 [tm f p, tm f2 p2] (by show 2 ≤ 16777216; omega)
  generalize hF' : max f.length f2.length = F' at *
  have e' : (F' : Int) + 2 * (l' : Int) = (M' : Int) := by omega
  obtain ⟨w, hw⟩ : ∃ w, w = max v v' := ⟨_, rfl⟩
  have hwm : w ∈ N ∨ w ∈ N' := by
    rcases (show w = v ∨ w = v' by omega) with q | q
    · exact .inl (q ▸ hmem)
    · exact .inr (q ▸ hmem')
  obtain ⟨g, j, hfa, hj1⟩ := first2_ok hL (n + 3) N N' w hwm
  refine ⟨some v, some v', .int j, .int g, nd, nd', rfl, rfl, ?_, fun m => ⟨[some (.lst [.lst (N.map D.int), .lst (N'.map D.int)])], ?_⟩⟩
  · intro a b ea eb
    cases ea; cases eb
    refine ⟨g, rfl, fun g0 => ?_⟩
    rcases hfa with ⟨_, q⟩ | ⟨q, _⟩
    · have := hle w q
      omega
    · omega
  rw [callF_succ (zf := z_least_keeping) rfl rfl rfl rfl]
  have hm := fun M1 => mk_keep L (n + 3) M1 (.int w) (.int j) (.int g) m.length rfl rfl rfl
  have ml1 := fun M1 => mkL_ok M1 [.int v, .int v'] (by show 2 ≤ 16777216; omega)
  have hap' := append_new (base := m.length) (fz := true) (m := m) (ds := [.lst (N.map D.int)]) (y := .lst (N'.map D.int)) (by show 1 < 16777216; omega) (Nat.le_refl _)
  have hkn' := kind_new (m := m) (ds := [.lst (N.map D.int)])
  have hnew := new_at m (some (.lst [.lst (N.map D.int), .lst (N'.map D.int)]))
  have hsq := seq_new m [.lst (N.map D.int), .lst (N'.map D.int)]
  have hsame := same_ref hnew
  have hf := gc_same (hj1 _ _ hnew) rfl
  have hx : ∀ M1 : MH, bltD .maxL true [.lst [.int v, .int v']] M1 = .ok (.int w) M1 := fun M1 => by
    rw [hw]
    exact blt_maxL true v [v']
  have hap := hap m
  have hkn := hkn m
  rw [show [D.lst (N.map D.int)] ++ [D.lst (N'.map D.int)] = [D.lst (N.map D.int), D.lst (N'.map D.int)] from rfl] at hap'
  generalize hm2 : m ++ [some (Ob.lst [D.lst (N.map D.int), D.lst (N'.map D.int)])] = hB at *
  generalize hm1 : m ++ [some (Ob.lst [D.lst (N.map D.int)])] = hA at *
  show _ = R.ok (keepI (.int (max v v')) (.int j) (.int g)) hB
  rw [← hw]
  simp [z_least_keeping, hck, hg, hj, c, hg', hj', c', hm, enumD, forL, ml0, ml, ml', ml1, m2, m2', e, e', hnd, hnd', hap, hkn, hap', hkn', bmT, sub_tup0, hsq, compL, lcTurn, wipeE, hsame, hmx, hmx', hx, hf, mkL, SZ, -List.length_append]
end
end K56
set_option maxHeartbeats 4000000
namespace K56
open PySem Zi
theorem fits_numsK (k : Nat) : ∀ l : List Int, K2.fits (l.map K2.num) (k + 1) = true
  | [] => rfl
  | i :: l => by
    show (K2.fit (.num i) (k + 1) && K2.fits (l.map K2.num) (k + 1)) = true
    rw [fits_numsK k l]; rfl
theorem nf_lst (l : List Int) : nf (.lst (l.map D.int)) = some (.lst (l.map K2.num)) := by
  show (nfs (l.map D.int)).map K2.lst = _
  rw [nfs_ints]; rfl
theorem nf_kls (l : List Int) : nf (.kls (l.map D.int)) = some (.lst (l.map K2.num)) := by
  show (nfs (l.map D.int)).map K2.lst = _
  rw [nfs_ints]; rfl
theorem map_num_inj {a b : List Int} : a.map K2.num = b.map K2.num ↔ a = b := by
  constructor
  · intro h
    induction a generalizing b with
    | nil => cases b with
      | nil => rfl
      | cons y b => cases h
    | cons x a ih => cases b with
      | nil => cases h
      | cons y b =>
        injection h with h1 h2
        injection h1 with h1
        rw [h1, ih h2]
  · intro h; rw [h]
theorem eqL_dec (a b : List Int) : eqD (.lst (a.map D.int)) (.lst (b.map D.int)) = some (decide (a = b)) := by
  unfold eqD
  rw [nf_lst, nf_lst]
  show (if K2.fits (a.map K2.num) 59 = true ∧ K2.fits (b.map K2.num) 59 = true then some (decide (K2.lst (a.map K2.num) = K2.lst (b.map K2.num))) else none) = _
  rw [if_pos ⟨fits_numsK 58 a, fits_numsK 58 b⟩]
  congr 1
  refine decide_eq_decide.mpr ?_
  rw [← map_num_inj]
  constructor
  · intro h; injection h
  · intro h; rw [h]
theorem eqK_nil (a : List Int) : eqD (.kls (a.map D.int)) (.lst []) = some (decide (a = [])) := by
  have := eqL_dec a []
  unfold eqD at this ⊢
  rw [nf_lst] at this
  rw [nf_kls]
  exact this
theorem cmp_neL (a b : List Int) (m : MH) : cmpD .NotEq (.lst (a.map D.int)) (.lst (b.map D.int)) m = some (!decide (a = b)) := by
  show (eqD (.lst (a.map D.int)) (.lst (b.map D.int))).map not = _
  rw [eqL_dec]; rfl
theorem cmp_eqK (a : List Int) (m : MH) : cmpD .Eq (.kls (a.map D.int)) (.lst []) m = some (decide (a = [])) := eqK_nil a
theorem sub_kls {l : List Int} {t : Nat} (h : t < l.length) (m : MH) : subD (.kls (l.map D.int)) (.int t) m = some (.int (l[t]?.getD 0)) := by
  show ((ixOf (l.map D.int).length t).bind fun j => (l.map D.int)[j]?) = _
  have : ixOf (l.map D.int).length t = some t := by
    unfold ixOf
    rw [List.length_map, if_pos (by omega), if_pos (by omega)]
    simp
  rw [this, Option.bind_some, List.getElem?_map, List.getElem?_eq_getElem h]
  rfl
theorem pow_ok (j : Int) (hj : 0 ≤ j) (hj2 : j ≤ 100) : ∃ X : Int, 0 < X ∧ ∀ m : MH, binD .Pow true (.int 10) (.int j) m = .ok (.int X) m := by
  refine ⟨10 ^ j.toNat, Int.pow_pos (by decide), fun m => ?_⟩
  show (if 0 ≤ j ∧ natB 1000000 j = true ∧ natB 18446744073709551615 (10 : Int) = true then _ else _) = _
  rw [if_pos ⟨hj, natB_ok.mpr (by omega), natB_ok.mpr (by omega)⟩]
theorem blend (i cell N : Int) (hN : N < 1000000000) : ∃ a1 a2 a3 a4 a5 a6 a7 a8 : Int, (∀ m : MH, binD .Mult true (.int 977) (.int i) m = .ok (.int a1) m) ∧ (∀ m : MH, binD .Mult true (.int (cell + a1)) (.int 48271) m = .ok (.int a2) m) ∧ (∀ m : MH, binD .Mult true (.int 31) (.int N) m = .ok (.int a3) m) ∧ (∀ m : MH, binD .Mod true (.int (a2 + a3)) (.int 2147483647) m = .ok (.int a4) m) ∧ (∀ m : MH, binD .Mult true (.int a4) (.int 69621) m = .ok (.int a5) m) ∧ (∀ m : MH, binD .Mod true (.int a5) (.int 2147483629) m = .ok (.int a6) m) ∧ (∀ m : MH, binD .Mult true (.int a6) (.int 16807) m = .ok (.int a7) m) ∧ (∀ m : MH, binD .Mod true (.int (a7 + i)) (.int 2147483587) m = .ok (.int a8) m) :=
  ⟨_, _, _, _, _, _, _, _, fun m => mul_ok m 977 i (by omega) (by omega) true, fun m => mul_ok2 m _ 48271 (by omega) (by omega) true, fun m => mul_ok m 31 N (by omega) (by omega) true, fun m => mod_ok m _ _ (by omega) true, fun m => mul_ok2 m _ 69621 (by omega) (by omega) true, fun m => mod_ok m _ _ (by omega) true, fun m => mul_ok2 m _ 16807 (by omega) (by omega) true, fun m => mod_ok m _ _ (by omega) true⟩
section
variable {L : Nat} (hL : 100000 ≤ L)
include hL
theorem number_ok (n : Nat) (ns : List Int) (hns : ns.length ≤ 63) (i : Int) : ∃ v, Ret (P L) (n + 1) "_law_number" [.kls (ns.map D.int), .int i] (.int v) := by
  have cmp := cmp_eqK ns
  obtain ⟨X, _, hX⟩ := pow_ok 60 (by decide) (by decide)
  obtain ⟨Y, hY0, hY⟩ := pow_ok 18 (by decide) (by decide)
  have ml := fun m => mkL_ok m [] (by show 0 ≤ 16777216; omega)
  by_cases c : ns = []
  · obtain ⟨a1, h1⟩ : ∃ a, ∀ m : MH, binD .Mult true (.int i) (.int 48271) m = .ok (.int a) m := ⟨_, fun m => mul_ok2 m i 48271 (by omega) (by omega) true⟩
    obtain ⟨a2, h2⟩ : ∃ a, ∀ m : MH, binD .Mod true (.int (a1 + 12345)) (.int 2147483647) m = .ok (.int a) m := ⟨_, fun m => mod_ok m _ _ (by omega) true⟩
    refine ⟨a2, fun m => ⟨[], ?_⟩⟩
    rw [callF_succ (zf := z__law_number) rfl rfl rfl rfl]
    simp only [show decide (ns = []) = true from decide_eq_true c] at cmp
    simp [z__law_number, ml, cmp, h1, h2]
  · have h0 : 0 < ns.length := List.length_pos_iff.mpr c
    simp only [show decide (ns = []) = false from decide_eq_false c] at cmp
    obtain ⟨t, ht, hme⟩ : ∃ t : Nat, t < ns.length ∧ i % (ns.length : Int) = (t : Int) := by
      have b1 := Int.emod_nonneg i (show (ns.length : Int) ≠ 0 by omega)
      have b2 := Int.emod_lt_of_pos i (show (0 : Int) < ns.length by omega)
      exact ⟨(i % (ns.length : Int)).toNat, by omega, by omega⟩
    have hm := fun m => mod_ok m i ns.length (by omega) true
    rw [hme] at hm
    have hs := fun m => sub_kls ht m
    generalize ns[t]?.getD 0 = cell at hs
    by_cases q : X ≤ (if cell < 0 then -cell else cell)
    · have hmY := fun m => mod_ok m cell Y hY0 true
      obtain ⟨cell', hc'⟩ : ∃ c', c' = cell % Y := ⟨_, rfl⟩
      rw [← hc'] at hmY
      obtain ⟨a1, a2, a3, a4, a5, a6, a7, a8, h1, h2, h3, h4, h5, h6, h7, h8⟩ := blend i cell' ns.length (by omega)
      refine ⟨a8, fun m => ⟨[], ?_⟩⟩
      rw [callF_succ (zf := z__law_number) rfl rfl rfl rfl]
      simp [z__law_number, ml, cmp, hm, hs, hX, q, hY, hmY, h1, h2, h3, h4, h5, h6, h7, h8]
    · obtain ⟨a1, a2, a3, a4, a5, a6, a7, a8, h1, h2, h3, h4, h5, h6, h7, h8⟩ := blend i cell ns.length (by omega)
      refine ⟨a8, fun m => ⟨[], ?_⟩⟩
      rw [callF_succ (zf := z__law_number) rfl rfl rfl rfl]
      simp [z__law_number, ml, cmp, hm, hs, hX, q, h1, h2, h3, h4, h5, h6, h7, h8]
end
/-! ### draws -/
@[irreducible] def Mh (ns : List Int) (c : Int) : MH := [some (.lst [.kls (ns.map D.int), .int c])]
theorem Mh_eq (ns : List Int) (c : Int) : Mh ns c = [some (.lst [.kls (ns.map D.int), .int c])] := by unfold Mh; rfl
@[simp] theorem Mh_len (ns : List Int) (c : Int) : (Mh ns c).length = 1 := by rw [Mh_eq]; rfl
theorem Mh_take (ns : List Int) (c : Int) : (Mh ns c).take 1 = Mh ns c := by rw [Mh_eq]; rfl
theorem Mh_sub0 (ns : List Int) (c : Int) : subD (.ref 0) (.int 0) (Mh ns c) = some (.kls (ns.map D.int)) := by rw [Mh_eq]; rfl
theorem Mh_sub1 (ns : List Int) (c : Int) : subD (.ref 0) (.int 1) (Mh ns c) = some (.int c) := by rw [Mh_eq]; rfl
theorem Mh_set (ns : List Int) (c v : Int) : setD 1 (.ref 0) (.int 1) (.int v) (Mh ns c) = .ok () (Mh ns v) := by rw [Mh_eq, Mh_eq]; rfl
section
variable {L : Nat} (hL : 100000 ≤ L)
include hL
theorem take_ok (n : Nat) (ns : List Int) (hns : ns.length ≤ 63) (c : Int) (k : Nat) (hk : 0 < k) : ∃ r : Nat, r < k ∧ gcR 1 false (callF (P L) (n + 2) 1 "_law_take" [.ref 0, .int k] (Mh ns c)) = .ok (.int r) (Mh ns (c + 1)) := by
  obtain ⟨v, hv⟩ := number_ok hL n ns hns (c + 1)
  obtain ⟨r, hr, hme⟩ : ∃ r : Nat, r < k ∧ v % (k : Int) = (r : Int) := by
    have b1 := Int.emod_nonneg v (show (k : Int) ≠ 0 by omega)
    have b2 := Int.emod_lt_of_pos v (show (0 : Int) < k by omega)
    exact ⟨(v % (k : Int)).toNat, by omega, by omega⟩
  have hm := fun m => mod_ok m v k (by omega) true
  rw [hme] at hm
  refine ⟨r, hr, ?_⟩
  have hc := gc_ret hv rfl (Mh ns (c + 1))
  rw [Mh_len] at hc
  have e : callF (P L) (n + 2) 1 "_law_take" [.ref 0, .int k] (Mh ns c) = .ok (.int r) (Mh ns (c + 1)) := by
    rw [callF_succ (zf := z__law_take) rfl rfl rfl rfl]
    have hf := frz_pureD (base := 1) (d := .int r) (m := Mh ns (c + 1)) rfl
    rw [Mh_take] at hf
    simp [z__law_take, Mh_sub0, Mh_sub1, Mh_set, hc, hm, hf]
  rw [e]
  show gc 1 (.int r) (Mh ns (c + 1)) = _
  unfold gc
  rw [if_pos (pure_below _ _ rfl), Mh_take]
theorem draws_ok (n b : Nat) (ns : List Int) (hns : ns.length ≤ 63) (k : Nat) (o2 o3 : Option D) : ∀ (ds acc : List D) (c : Int), acc.length + ds.length ≤ 100 → ∃ (xs : List Int) (c' : Int), xs.length = ds.length ∧ (∀ x ∈ xs, 0 ≤ x ∧ x ≤ k) ∧ compL (sameB []) (lcTurn (ecOf (P L) b (callF (P L) (n + 2))) [3] (.nm 3) [] (.call false "_law_take" [.var 0, .bin .Add true (.var 1) (.lit (.int 1))]) [some (.ref 0), some (.int k), o2, o3]) ds acc (Mh ns c) = .ok (acc ++ xs.map D.int) (Mh ns c')
  | [], acc, c, _ => ⟨[], c, rfl, (fun x h => by cases h), by simp [compL]⟩
  | d :: ds, acc, c, hl => by
    rw [List.length_cons] at hl
    obtain ⟨r, hr, he⟩ := take_ok hL n ns hns c (k + 1) (by omega)
    obtain ⟨xs, c', e1, e2, e3⟩ := draws_ok n b ns hns k o2 o3 ds (acc ++ [.int r]) (c + 1) (by rw [List.length_append, List.length_singleton]; omega)
    refine ⟨(r : Int) :: xs, c', by rw [List.length_cons, List.length_cons, e1], ?_, ?_⟩
    · intro x hx
      rcases List.mem_cons.mp hx with rfl | hx
      · omega
      · exact e2 x hx
    · simp only [Int.natCast_add, Int.natCast_one] at he
      have ht : lcTurn (ecOf (P L) b (callF (P L) (n + 2))) [3] (.nm 3) [] (.call false "_law_take" [.var 0, .bin .Add true (.var 1) (.lit (.int 1))]) [some (.ref 0), some (.int k), o2, o3] d (Mh ns c) = .ok (some (.int r)) (Mh ns (c + 1)) := by
        simp [lcTurn, wipeE, he]
      have hlt : acc.length < SZ := by show _ < 16777216; omega
      unfold compL
      rw [ht]
      simp [hlt, e3]
theorem times_ok (n : Nat) (ns : List Int) (hns : ns.length ≤ 63) (c : Int) (k : Nat) (hk : k ≤ 100) : ∃ (fr pe : List Int) (c' : Int), Tk fr pe 3 4 k ∧ gcR 1 false (callF (P L) (n + 4) 1 "_law_times" [.ref 0, .int k] (Mh ns c)) = .ok (tm fr pe) (Mh ns c') := by
  obtain ⟨r1, hr1, q1⟩ := take_ok hL (n + 1) ns hns c 4 (by omega)
  obtain ⟨fr, c1, f1, f2, f3⟩ := draws_ok hL (n + 1) 1 ns hns k none none ((List.range r1).map fun (k : Nat) => D.int k) [] (c + 1) (by rw [List.length_map, List.length_range]; show 0 + r1 ≤ 100; omega)
  obtain ⟨r2, hr2, q2⟩ := take_ok hL (n + 1) ns hns c1 4 (by omega)
  obtain ⟨pe, c2, p1, p2, p3⟩ := draws_ok hL (n + 1) 1 ns hns k (some (.lst (fr.map D.int))) none ((List.range (1 + r2)).map fun (k : Nat) => D.int k) [] (c1 + 1) (by rw [List.length_map, List.length_range]; show 0 + (1 + r2) ≤ 100; omega)
  rw [List.length_map, List.length_range] at f1 p1
  have tk : Tk fr pe 3 4 k := ⟨fun e => by rw [e, List.length_nil] at p1; omega, by omega, by omega, f2, p2⟩
  refine ⟨fr, pe, c2, tk, ?_⟩
  have hr1' := rng1 (n := r1) (by omega)
  have hr2' := rng1 (n := 1 + r2) (by omega)
  simp only [Int.natCast_add, Int.natCast_one] at hr2'
  rw [List.nil_append] at f3 p3
  have ml1 := fun m => mkL_ok m (fr.map D.int) (by rw [List.length_map]; omega)
  have ml2 := fun m => mkL_ok m (pe.map D.int) (by rw [List.length_map]; omega)
  have hm := mk_times hL n (Mh ns c2) 1 fr pe (tk.tok (by omega) (by omega) (by omega))
  have e : callF (P L) (n + 4) 1 "_law_times" [.ref 0, .int k] (Mh ns c) = .ok (tm fr pe) (Mh ns c2) := by
    rw [callF_succ (zf := z__law_times) rfl rfl rfl rfl]
    rw [show ((4 : Nat) : Int) = 4 from rfl] at q1 q2
    simp [z__law_times, q1, q2, hr1', hr2', f3, p3, ml1, ml2, hm, -List.map_map]
  rw [e]
  show gc 1 (tm fr pe) (Mh ns c2) = _
  unfold gc
  rw [if_pos (pure_below _ _ (tm_pure _ _)), Mh_take]
end
end K56
set_option maxHeartbeats 4000000
namespace K56
open PySem Zi
theorem get_nz (l : List Int) (i : Nat) (h : i < l.length) : l[i]?.getD 0 ∈ l := by
  rw [List.getElem?_eq_getElem h, Option.getD_some]
  exact List.getElem_mem h
theorem atT_mem (f p : List Int) (h : p ≠ []) (t : Nat) : atT f p t ∈ f ++ p := by
  have a1 : 0 < p.length := List.length_pos_iff.mpr h
  unfold atT
  split
  · rename_i c
    exact List.mem_append_left _ (get_nz f t c)
  · exact List.mem_append_right _ (get_nz p _ (Nat.mod_lt _ a1))
theorem mem_atT (f p : List Int) (i : Int) (h : i ∈ f ++ p) : ∃ t, atT f p t = i := by
  rcases List.mem_append.mp h with h | h
  · obtain ⟨k, hk, e⟩ := List.mem_iff_getElem.mp h
    refine ⟨k, ?_⟩
    unfold atT
    rw [if_pos hk, List.getElem?_eq_getElem hk, Option.getD_some, e]
  · obtain ⟨k, hk, e⟩ := List.mem_iff_getElem.mp h
    refine ⟨f.length + k, ?_⟩
    unfold atT
    rw [if_neg (by omega), show f.length + k - f.length = k by omega, Nat.mod_eq_of_lt hk, List.getElem?_eq_getElem hk, Option.getD_some, e]
theorem mod_two (s n : Nat) (h : 0 < n) : s % (n + n) % n = s % n := by
  rw [show n + n = n * 2 by omega]
  exact Nat.mod_mul_right_mod s n 2
theorem twice_at (f p : List Int) (h : p ≠ []) (t : Nat) : atT (f ++ p) (p ++ p) t = atT f p t := by
  have a1 : 0 < p.length := List.length_pos_iff.mpr h
  unfold atT
  rw [List.length_append, List.length_append]
  by_cases c1 : t < f.length
  · rw [if_pos (by omega), if_pos c1, List.getElem?_append_left c1]
  · rw [if_neg c1]
    by_cases c2 : t < f.length + p.length
    · rw [if_pos c2, List.getElem?_append_right (by omega), Nat.mod_eq_of_lt (by omega)]
    · rw [if_neg c2]
      obtain ⟨s, rfl⟩ : ∃ s, t = f.length + p.length + s := ⟨t - (f.length + p.length), by omega⟩
      rw [show f.length + p.length + s - (f.length + p.length) = s by omega, show f.length + p.length + s - f.length = p.length + s by omega, Nat.add_mod_left, ← mod_two s p.length a1]
      have hl := Nat.mod_lt s (show 0 < p.length + p.length by omega)
      generalize s % (p.length + p.length) = r at hl ⊢
      by_cases c3 : r < p.length
      · rw [List.getElem?_append_left c3, Nat.mod_eq_of_lt c3]
      · rw [List.getElem?_append_right (by omega)]
        have : r % p.length = r - p.length := by
          obtain ⟨k, rfl⟩ : ∃ k, r = p.length + k := ⟨r - p.length, by omega⟩
          rw [Nat.add_mod_left, Nat.mod_eq_of_lt (by omega), show p.length + k - p.length = k by omega]
        rw [this]
/-! ### sorting -/
def insI (x : Int) : List Int → List Int
  | [] => [x]
  | b :: t => if x ≤ b then x :: b :: t else b :: insI x t
def isortI : List Int → List Int
  | [] => []
  | a :: r => insI a (isortI r)
def prI (i : Int) : PyData × D := (.int i, .int i)
theorem leP_int (a b : Int) : leP (prI a) (prI b) = decide (a ≤ b) := by
  show (!PySem.W.dataLt (.int b) (.int a)) = _
  rw [PySem.W.dataLt_int]
  by_cases h : a ≤ b
  · rw [decide_eq_true h, decide_eq_false (by omega)]; rfl
  · rw [decide_eq_false h, decide_eq_true (by omega)]; rfl
theorem ins_int (x : Int) : ∀ l : List Int, insBy leP (prI x) (l.map prI) = (insI x l).map prI
  | [] => rfl
  | b :: t => by
    show (if leP (prI x) (prI b) = true then prI x :: prI b :: t.map prI else prI b :: insBy leP (prI x) (t.map prI)) = _
    rw [leP_int, ins_int x t]
    show _ = (if x ≤ b then x :: b :: t else b :: insI x t).map prI
    by_cases h : x ≤ b
    · rw [if_pos h, decide_eq_true h]; rfl
    · rw [if_neg h, decide_eq_false h]; rfl
theorem isort_int : ∀ l : List Int, isortBy leP (l.map prI) = (isortI l).map prI
  | [] => rfl
  | a :: r => by
    show insBy leP (prI a) (isortBy leP (r.map prI)) = _
    rw [isort_int r, ins_int]; rfl
theorem all_same (x : Int) : ∀ l : List Int, (∀ i ∈ l, i = x) → x :: l = l ++ [x]
  | [], _ => rfl
  | b :: t, h => by
    have hb := h b List.mem_cons_self
    have := all_same x t fun i hi => h i (List.mem_cons_of_mem _ hi)
    rw [hb, List.cons_append, ← this]
theorem ins_end (x : Int) : ∀ l : List Int, l.Pairwise (· ≤ ·) → (∀ i ∈ l, i ≤ x) → insI x l = l ++ [x]
  | [], _, _ => rfl
  | b :: t, hp, h => by
    rw [List.pairwise_cons] at hp
    unfold insI
    by_cases c : x ≤ b
    · rw [if_pos c]
      refine all_same x (b :: t) fun i hi => ?_
      have h1 := h i hi
      have h2 := h b List.mem_cons_self
      rcases List.mem_cons.mp hi with e | hi
      · omega
      · have := hp.1 i hi; omega
    · rw [if_neg c, ins_end x t hp.2 fun i hi => h i (List.mem_cons_of_mem _ hi), List.cons_append]
theorem isort_desc : ∀ l : List Int, l.Pairwise (· ≥ ·) → isortI l = l.reverse
  | [], _ => rfl
  | a :: r, h => by
    rw [List.pairwise_cons] at h
    unfold isortI
    rw [isort_desc r h.2, List.reverse_cons]
    refine ins_end a _ ?_ fun i hi => h.1 i (List.mem_reverse.mp hi)
    rw [List.pairwise_reverse]
    exact h.2
theorem sorted5 (a b c d e : Int) (h1 : b ≤ a) (h2 : c ≤ b) (h3 : d ≤ c) (h4 : e ≤ d) (fz : Bool) (m : MH) : bltD .sorted fz [.lst [.int a, .int b, .int c, .int d, .int e]] m = mkL fz [.int e, .int d, .int c, .int b, .int a] m := by
  have hs : isortI [a, b, c, d, e] = [e, d, c, b, a] := isort_desc _ (by simp; omega)
  have hi := isort_int [a, b, c, d, e]
  rw [hs] at hi
  have : sortD [.int a, .int b, .int c, .int d, .int e] = some [.int e, .int d, .int c, .int b, .int a] := by
    unfold sortD
    have e1 : datsOf [.int a, .int b, .int c, .int d, .int e] = some [.int a, .int b, .int c, .int d, .int e] := rfl
    rw [e1]
    have e2 : sortable [.int a, .int b, .int c, .int d, .int e] = true := rfl
    show (if sortable [.int a, .int b, .int c, .int d, .int e] = true then some ((isortBy leP ([a, b, c, d, e].map prI)).map (·.2)) else none) = _
    rw [if_pos e2, hi]; rfl
  show (ofO (sortD [.int a, .int b, .int c, .int d, .int e]) m).bind (fun es m => mkL fz es m) = _
  rw [this]; rfl
/-! ### rates -/
theorem Stays.mono {f p : List Int} {r k k' : Int} (h : Stays f p r k) (hk : k ≤ k') : Stays f p r k' := fun t => Int.le_trans (h t) hk
theorem rate_desc {f p : List Int} {r r' : Nat} {k k' : Int} (h : Stays f p r k) (hm : ∀ q : Nat, q < r' → ¬ Stays f p q k') (hk : k ≤ k') : r' ≤ r := by
  by_cases c : r' ≤ r
  · exact c
  · exact (hm r (by omega) (h.mono hk)).elim
theorem rate_sum {f p g q : List Int} {r r' : Nat} {k : Int} (hle : ∀ t, atT f p t ≤ atT g q t) (h : Stays g q r k) (hm : ∀ q : Nat, q < r' → ¬ Stays f p q k) : r' ≤ r := by
  by_cases c : r' ≤ r
  · exact c
  · refine (hm r (by omega) fun t => Int.le_trans (qs_mono (fun t => ?_) t) (h t)).elim
    have := hle t
    omega
theorem rate_zero {f p : List Int} {r : Nat} (hp : p ≠ []) (h : Stays f p r 0) (hm : ∀ q : Nat, q < r → ¬ Stays f p q 0) (h0 : 0 ≤ mx (f ++ p)) : (r : Int) = mx (f ++ p) := by
  have hne : f ++ p ≠ [] := fun e => hp (List.append_eq_nil_iff.mp e).2
  have le : mx (f ++ p) ≤ r := by
    obtain ⟨t, ht⟩ := mem_atT f p _ (mx_mem hne)
    have := h (t + 1)
    have e : qs (fun t => atT f p t - r) (t + 1) = max 0 (qs (fun t => atT f p t - r) t + (atT f p t - r)) := rfl
    have := qs_nn (fun t => atT f p t - r) t
    omega
  have st : Stays f p (mx (f ++ p)) 0 := fun t => by
    have : ∀ t, qs (fun t => atT f p t - mx (f ++ p)) t = 0 := fun t => by
      induction t with
      | zero => rfl
      | succ t ih =>
        have := mx_le (atT_mem f p hp t)
        show max 0 (qs (fun t => atT f p t - mx (f ++ p)) t + (atT f p t - mx (f ++ p))) = 0
        rw [ih]; omega
    rw [this]; exact Int.le_refl _
  by_cases c : (r : Int) = mx (f ++ p)
  · exact c
  · refine (hm (mx (f ++ p)).toNat (by omega) ?_).elim
    rw [show (((mx (f ++ p)).toNat : Nat) : Int) = mx (f ++ p) by omega]
    exact st
/-! ### keeping -/
theorem nd_lag {f p r s : List Int} {v q : Int} (hp : p ≠ []) (hr : ∀ t, 0 ≤ atT r s t) (hf : ∀ t, 0 ≤ atT f p t) (h : Nd f p r s (some v)) (hq : LagOf (dif f p r s) (some q)) : q ≤ v ∧ v ≤ q + mx (f ++ p) := by
  obtain ⟨l, M, hM, hv, hl⟩ := h
  have hM := hM.hM0
  have e := LagOf.eq hq hl fun _ => rfl
  injection e with e
  constructor
  · obtain ⟨u, hu, e2⟩ := lagL_mx (d := dif f p r s) hM
    have : qs (dif f p r s) u + atT f p u ∈ needL f p r s M := List.mem_map.mpr ⟨u, List.mem_range.mpr hu, rfl⟩
    have := mx_le this
    have e3 : qs (dif f p r s) (u + 1) = max 0 (qs (dif f p r s) u + (atT f p u - atT r s u)) := rfl
    have := qs_nn (dif f p r s) u
    have := hr u
    have := hf u
    omega
  · have hm := mx_mem (needL_ne (f := f) (p := p) (f1 := r) (p1 := s) hM)
    obtain ⟨t, _, e2⟩ := List.mem_map.mp hm
    have := hq.1 t
    have := mx_le (atT_mem f p hp t)
    omega
theorem nd_none_lag {f p r s : List Int} {o : Option Int} (h : Nd f p r s none) (hq : LagOf (dif f p r s) o) : o = none := LagOf.eq hq h fun _ => rfl
theorem nd_some_lag {f p r s : List Int} {v : Int} {o : Option Int} (h : Nd f p r s (some v)) (hq : LagOf (dif f p r s) o) : ∃ q, o = some q := by
  obtain ⟨l, M, hM, hv, hl⟩ := h
  exact ⟨_, LagOf.eq hq hl fun _ => rfl⟩
theorem nd_uniq {f p r s : List Int} {o o' : Option Int} (h : Nd f p r s o) (h' : Nd f p r s o') : o = o' := by
  cases o with
  | none => cases o' with
    | none => rfl
    | some b =>
      obtain ⟨q, e⟩ := nd_some_lag (o := none) h' h
      cases e
  | some a => cases o' with
    | none =>
      obtain ⟨q, e⟩ := nd_some_lag (o := none) h h'
      cases e
    | some b =>
      obtain ⟨l, M, s1, e1, _⟩ := h
      obtain ⟨l', M', s2, e2, _⟩ := h'
      have hl : l = l' := s1.hl.trans s2.hl.symm
      subst hl
      have hM : M = M' := s1.eqM.trans s2.eqM.symm
      subst hM
      rw [e1, e2]
end K56
set_option maxHeartbeats 4000000
namespace K56
open PySem Zi
def sx (i : Nat) : S := z_law.body.getD i .pass
theorem body_sx : z_law.body = [sx 0, sx 1, sx 2, sx 3, sx 4, sx 5, sx 6, sx 7, sx 8, sx 9, sx 10, sx 11, sx 12, sx 13, sx 14, sx 15, sx 16, sx 17] := rfl
@[simp] theorem lk_tup (m : MH) (ds : List D) : lockOf m (.tup ds) = [] := rfl
@[simp] theorem sq_tup (m : MH) (ds : List D) : seqD m (.tup ds) = some ds := rfl
theorem cmp_neO (o : Option Int) (m : MH) : cmpD .NotEq (optD o) (optD o) m = some false := by
  cases o with
  | none => rfl
  | some i => simp [optD]
theorem bin_cat (a b : List Int) (m : MH) (h : a.length + b.length ≤ 1000) : binD .Add true (.lst (a.map D.int)) (.lst (b.map D.int)) m = .ok (.lst ((a ++ b).map D.int)) m := by
  have := bin_addL (fz := true) (as := a.map D.int) (bs := b.map D.int) (m := m) (by rw [List.length_map, List.length_map]; omega)
  rw [this, List.map_append]; rfl
/-- four timetables -/
structure Four (f p g q r s u v : List Int) : Prop where
  a : Tk f p 3 4 6
  b : Tk g q 3 4 3
  c : Tk r s 3 4 7
  d : Tk u v 3 4 7
theorem Tk.t {f p : List Int} {c : Int} (h : Tk f p 3 4 c) (hc : c ≤ 7) : Tok f p := h.tok (by omega) (by omega) (by omega)
theorem Tk.tw {f p : List Int} {c : Int} (h : Tk f p 3 4 c) (hc : c ≤ 7) : Tok (f ++ p) (p ++ p) where
  pe0 := fun e => h.pe0 (List.append_eq_nil_iff.mp e).1
  fl := by rw [List.length_append]; have := h.fl; have := h.pl; omega
  pl := by rw [List.length_append]; have := h.pl; omega
  f := fun i hi => by
    rcases List.mem_append.mp hi with hi | hi
    · have := h.f i hi; omega
    · have := h.p i hi; omega
  p := fun i hi => by
    rcases List.mem_append.mp hi with hi | hi
    · have := h.p i hi; omega
    · have := h.p i hi; omega
theorem sum_tok {f p g q : List Int} {c d : Int} (h : Tk f p 3 4 c) (k : Tk g q 3 4 d) (hc : c ≤ 7) (hd : d ≤ 7) : ∃ l, l = Nat.lcm p.length q.length ∧ Tok (sumF f p g q) (sumP f p g q l) := by
  obtain ⟨l, hl⟩ : ∃ l, l = Nat.lcm p.length q.length := ⟨_, rfl⟩
  have a1 : 0 < p.length := List.length_pos_iff.mpr h.pe0
  have a2 : 0 < q.length := List.length_pos_iff.mpr k.pe0
  have b : 0 < Nat.lcm p.length q.length ∧ Nat.lcm p.length q.length ≤ p.length * q.length := ⟨Nat.lcm_pos a1 a2, Nat.le_of_dvd (Nat.mul_pos a1 a2) (Nat.lcm_dvd_mul _ _)⟩
  have hb : l ≤ 16 := by
    rw [hl]
    exact Nat.le_trans b.2 (Nat.mul_le_mul h.pl k.pl)
  have h0 : 0 < l := by rw [hl]; exact b.1
  exact ⟨l, hl, (h.add k h0 hb).tok (by omega) (by omega) (by omega)⟩
section
variable {L : Nat} (hL : 100000 ≤ L)
include hL
/-- the statements ahead of the rates -/
theorem law_a (n : Nat) (M : MH) (sc : D) {f p g q r s u v : List Int} (h : Four f p g q r s u v) : ∃ o1 o2 : Option Int, LagOf (dif f p r s) o1 ∧
    exs (ecOf (P L) 0 (callF (P L) (n + 7))) [sx 2, sx 3, sx 4, sx 5, sx 6] [some sc, some (.ref 0), some (tm f p), some (tm g q), some (tm r s), some (tm u v), none, none, none, none, none, none, none, none, none, none] M
      = .ok (.nx [some sc, some (.ref 0), some (tm f p), some (tm g q), some (tm r s), some (tm u v), some (tm (f ++ p) (p ++ p)), some (optD o1), some (optD o1), some (optD o2), none, none, none, none, none, none]) M := by
  obtain ⟨l1, hl1, k1⟩ := sum_tok h.a h.b (by omega) (by omega)
  obtain ⟨l2, hl2, k2⟩ := sum_tok h.c h.b (by omega) (by omega)
  obtain ⟨l3, hl3, k3⟩ := sum_tok h.c h.d (by omega) (by omega)
  have ta := h.a.t (by omega)
  have tb := h.b.t (by omega)
  have tc := h.c.t (by omega)
  have td := h.d.t (by omega)
  have tw := h.a.tw (by omega)
  have ad1 := own_add hL (n + 3) 0 f p g q l1 ta tb k1 hl1 M (fun m => .ok [tm g q] m) rfl
  have ad2 := own_add hL (n + 3) 0 r s g q l2 tc tb k2 hl2 M (fun m => .ok [tm g q] m) rfl
  have ad3 := own_add hL (n + 3) 0 r s u v l3 tc td k3 hl3 M (fun m => .ok [tm u v] m) rfl
  obtain ⟨o1, g1, c1⟩ := lawlag_ok hL (n + 1) f p r s ta tc
  obtain ⟨o2, g2, c2⟩ := lawlag_ok hL (n + 1) g q u v tb td
  obtain ⟨o3, g3, c3⟩ := lawlag_ok hL (n + 1) (f ++ p) (p ++ p) r s tw tc
  obtain ⟨o4, g4, c4⟩ := lawlag_ok hL (n + 1) _ _ r s k1 tc
  obtain ⟨o5, g5, c5⟩ := lawlag_ok hL (n + 1) f p _ _ ta k2
  obtain ⟨o6, g6, c6⟩ := lawlag_ok hL (n + 1) _ _ _ _ k1 k3
  have c1 := gc_ret c1 (optD_pure _) M
  have c2 := gc_ret c2 (optD_pure _) M
  have c3 := gc_ret c3 (optD_pure _) M
  have c4 := gc_ret c4 (optD_pure _) M
  have c5 := gc_ret c5 (optD_pure _) M
  have c6 := gc_ret c6 (optD_pure _) M
  have e13 : o3 = o1 := g3.eq g1 fun t => by
    show atT (f ++ p) (p ++ p) t - atT r s t = atT f p t - atT r s t
    rw [twice_at f p h.a.pe0]
  have s1 := sum_at f p g q l1 h.a.pe0 h.b.pe0 hl1
  have s2 := sum_at r s g q l2 h.c.pe0 h.b.pe0 hl2
  have s3 := sum_at r s u v l3 h.c.pe0 h.d.pe0 hl3
  have a1 : AtMost o1 o4 := g1.le g4 fun t => by
    show atT f p t - atT r s t ≤ atT (sumF f p g q) (sumP f p g q l1) t - atT r s t
    rw [s1]
    have := h.b.at_le t
    omega
  have a2 : AtMost o5 o1 := g5.le g1 fun t => by
    show atT f p t - atT (sumF r s g q) (sumP r s g q l2) t ≤ atT f p t - atT r s t
    rw [s2]
    have := h.b.at_le t
    omega
  have a1 := gc_ret (atmost_ok hL (n + 6) o1 o4 a1) rfl M
  have a2 := gc_ret (atmost_ok hL (n + 6) o5 o1 a2) rfl M
  subst e13
  have mt := mk_times hL (n + 4) M 0 _ _ tw
  have b1 := bin_cat f p M (by have := h.a.fl; have := h.a.pl; omega)
  have b2 := bin_cat p p M (by have := h.a.pl; omega)
  have ne := cmp_neO o3 M
  refine ⟨o3, o2, g1, ?_⟩
  have e2 : ex (ecOf (P L) 0 (callF (P L) (n + 7))) (sx 2) [some sc, some (.ref 0), some (tm f p), some (tm g q), some (tm r s), some (tm u v), none, none, none, none, none, none, none, none, none, none] M = .ok (.nx [some sc, some (.ref 0), some (tm f p), some (tm g q), some (tm r s), some (tm u v), some (tm (f ++ p) (p ++ p)), none, none, none, none, none, none, none, none, none]) M := by
    simp [sx, z_law, b1, b2, mt, -List.map_append]
  have e3 : ex (ecOf (P L) 0 (callF (P L) (n + 7))) (sx 3) [some sc, some (.ref 0), some (tm f p), some (tm g q), some (tm r s), some (tm u v), some (tm (f ++ p) (p ++ p)), none, none, none, none, none, none, none, none, none] M = .ok (.nx [some sc, some (.ref 0), some (tm f p), some (tm g q), some (tm r s), some (tm u v), some (tm (f ++ p) (p ++ p)), some (optD o3), none, none, none, none, none, none, none, none]) M := by
    simp [sx, z_law, c1]
  have e4 : ex (ecOf (P L) 0 (callF (P L) (n + 7))) (sx 4) [some sc, some (.ref 0), some (tm f p), some (tm g q), some (tm r s), some (tm u v), some (tm (f ++ p) (p ++ p)), some (optD o3), none, none, none, none, none, none, none, none] M = .ok (.nx [some sc, some (.ref 0), some (tm f p), some (tm g q), some (tm r s), some (tm u v), some (tm (f ++ p) (p ++ p)), some (optD o3), none, none, none, none, none, none, none, none]) M := by
    simp [sx, z_law, c1, c3, c4, c5, ne, ad1, ad2, a1, a2]
  have e5 : ex (ecOf (P L) 0 (callF (P L) (n + 7))) (sx 5) [some sc, some (.ref 0), some (tm f p), some (tm g q), some (tm r s), some (tm u v), some (tm (f ++ p) (p ++ p)), some (optD o3), none, none, none, none, none, none, none, none] M = .ok (.nx [some sc, some (.ref 0), some (tm f p), some (tm g q), some (tm r s), some (tm u v), some (tm (f ++ p) (p ++ p)), some (optD o3), some (optD o3), some (optD o2), none, none, none, none, none, none]) M := by
    simp [sx, z_law, c1, c2, mkT, SZ]
  have e6 : ex (ecOf (P L) 0 (callF (P L) (n + 7))) (sx 6) [some sc, some (.ref 0), some (tm f p), some (tm g q), some (tm r s), some (tm u v), some (tm (f ++ p) (p ++ p)), some (optD o3), some (optD o3), some (optD o2), none, none, none, none, none, none] M = .ok (.nx [some sc, some (.ref 0), some (tm f p), some (tm g q), some (tm r s), some (tm u v), some (tm (f ++ p) (p ++ p)), some (optD o3), some (optD o3), some (optD o2), none, none, none, none, none, none]) M := by
    cases o3 with
    | none => simp [sx, z_law, optD]
    | some x => cases o2 with
      | none => simp [sx, z_law, optD]
      | some y =>
        have a3 : AtMost o6 (some (x + y)) := g6.add g1 g2 fun t => by
          show atT (sumF f p g q) (sumP f p g q l1) t - atT (sumF r s u v) (sumP r s u v l3) t = (atT f p t - atT r s t) + (atT g q t - atT u v t)
          rw [s1, s3]; omega
        have a3 := gc_ret (atmost_ok hL (n + 6) o6 (some (x + y)) a3) rfl M
        have hd : ∀ i : Int, optD (some i) = .int i := fun _ => rfl
        rw [hd] at a3
        simp [sx, z_law, hd, c6, ad1, ad3, a3]
  rw [exs_cons, e2, sqR_nx, exs_cons, e3, sqR_nx, exs_cons, e4, sqR_nx, exs_cons, e5, sqR_nx, exs_cons, e6, sqR_nx, exs_nil]
end
end K56
set_option maxHeartbeats 4000000
namespace K56
open PySem Zi
section
variable {L : Nat} (hL : 100000 ≤ L)
include hL
/-- the statements about the rates -/
theorem law_b (n : Nat) (M : MH) (sc : D) (x6 x7 x8 x9 : Option D) {f p g q r s u v : List Int} (h : Four f p g q r s u v) : ∃ x10 x11 x12 : Option D,
    exs (ecOf (P L) 0 (callF (P L) (n + 7))) [sx 7, sx 8, sx 9, sx 10, sx 11] [some sc, some (.ref 0), some (tm f p), some (tm g q), some (tm r s), some (tm u v), x6, x7, x8, x9, none, none, none, none, none, none] M
      = .ok (.nx [some sc, some (.ref 0), some (tm f p), some (tm g q), some (tm r s), some (tm u v), x6, x7, x8, x9, x10, x11, x12, none, none, none]) M := by
  obtain ⟨l1, hl1, k1⟩ := sum_tok h.a h.b (by omega) (by omega)
  have ta := h.a.t (by omega)
  have s1 := sum_at f p g q l1 h.a.pe0 h.b.pe0 hl1
  have hle : ∀ t, atT f p t ≤ atT (sumF f p g q) (sumP f p g q l1) t := fun t => by
    rw [s1]
    have := h.b.at_le t
    omega
  have ad1 := own_add hL (n + 3) 0 f p g q l1 ta (h.b.t (by omega)) k1 hl1 M (fun m => .ok [tm g q] m) rfl
  obtain ⟨r0, y0, b0, p0, c0, d0, m0⟩ := rate_ok hL (n + 2) f p ta 0 (by omega) (by omega)
  obtain ⟨r1, y1, b1, p1, c1, d1, m1⟩ := rate_ok hL (n + 2) f p ta 1 (by omega) (by omega)
  obtain ⟨r2, y2, b2, p2, c2, d2, m2⟩ := rate_ok hL (n + 2) f p ta 5 (by omega) (by omega)
  obtain ⟨r3, y3, b3, p3, c3, d3, m3⟩ := rate_ok hL (n + 2) f p ta 20 (by omega) (by omega)
  obtain ⟨r4, y4, b4, p4, c4, d4, m4⟩ := rate_ok hL (n + 2) f p ta 1000 (by omega) (by omega)
  obtain ⟨r5, y5, b5, p5, c5, d5, m5⟩ := rate_ok hL (n + 2) f p ta 3 (by omega) (by omega)
  obtain ⟨r6, y6, b6, p6, c6, d6, m6⟩ := rate_ok hL (n + 2) f p ta 9 (by omega) (by omega)
  obtain ⟨w0, z0, _, q0, e0, i0, _⟩ := rate_ok hL (n + 2) _ _ k1 0 (by omega) (by omega)
  obtain ⟨w5, z5, _, q5, e5, i5, _⟩ := rate_ok hL (n + 2) _ _ k1 3 (by omega) (by omega)
  obtain ⟨w6, z6, _, q6, e6, i6, _⟩ := rate_ok hL (n + 2) _ _ k1 9 (by omega) (by omega)
  have pr : ∀ (a : Int) (y : D), pure y = true → pure (rateI (.int a) y) = true := fun a y hy => by
    show (true && (pure y && true)) = true
    rw [hy]; rfl
  have c0 := gc_ret c0 (pr _ _ p0) M
  have c1 := gc_ret c1 (pr _ _ p1) M
  have c2 := gc_ret c2 (pr _ _ p2) M
  have c3 := gc_ret c3 (pr _ _ p3) M
  have c4 := gc_ret c4 (pr _ _ p4) M
  have c5 := gc_ret c5 (pr _ _ p5) M
  have c6 := gc_ret c6 (pr _ _ p6) M
  have e0 := gc_ret e0 (pr _ _ q0) M
  have e5 := gc_ret e5 (pr _ _ q5) M
  have e6 := gc_ret e6 (pr _ _ q6) M
  have at' : ∀ (a : Int) (y : D), attR (ecOf (P L) 0 (callF (P L) (n + 7))) (rateI (.int a) y) "number" M = .ok (.int a) M := fun a y => rfl
  have g1 : r1 ≤ r0 := rate_desc d0 m1 (by omega)
  have g2 : r2 ≤ r1 := rate_desc d1 m2 (by omega)
  have g3 : r3 ≤ r2 := rate_desc d2 m3 (by omega)
  have g4 : r4 ≤ r3 := rate_desc d3 m4 (by omega)
  have v0 : r0 ≤ w0 := rate_sum hle i0 m0
  have v5 : r5 ≤ w5 := rate_sum hle i5 m5
  have v6 : r6 ≤ w6 := rate_sum hle i6 m6
  have hne : f ++ p ≠ [] := fun e => h.a.pe0 (List.append_eq_nil_iff.mp e).2
  have mx0 : 0 ≤ mx (f ++ p) := by
    obtain ⟨t, ht⟩ := mem_atT f p _ (mx_mem hne)
    have := (h.a.at_le t).1
    omega
  have hz := rate_zero h.a.pe0 d0 m0 mx0
  have cat := bin_cat f p M (by have := h.a.fl; have := h.a.pl; omega)
  have hmx := blt_mx (fz := true) hne M
  rw [← hz] at hmx
  have hsum := ((stays_iff f p ta r4 1000).mp d4).1
  have mul := mul_ok M r4 p.length (by omega) (by omega) true
  obtain ⟨rs, hrs⟩ : ∃ rs, rs = D.lst [.int r0, .int r1, .int r2, .int r3, .int r4] := ⟨_, rfl⟩
  have ml : mkL true [.int r0, .int r1, .int r2, .int r3, .int r4] M = .ok rs M := by rw [hrs]; rfl
  have srt : bltD .sorted true [rs] M = .ok (.lst [.int r4, .int r3, .int r2, .int r1, .int r0]) M := by
    rw [hrs, sorted5 r0 r1 r2 r3 r4 (by omega) (by omega) (by omega) (by omega)]; rfl
  have rev : revR true (.lst [.int r4, .int r3, .int r2, .int r1, .int r0]) M = .ok rs M := by rw [hrs]; rfl
  have neq : cmpD .NotEq rs rs M = some false := by
    have := cmp_neL [r0, r1, r2, r3, r4] [r0, r1, r2, r3, r4] M
    rw [hrs]
    simpa using this
  have sub0 : subD rs (.int 0) M = some (.int r0) := by rw [hrs]; rfl
  have sub4 : subD rs (.int (-1)) M = some (.int r4) := by rw [hrs]; rfl
  have mlf : mkL true [.bl false, .bl false, .bl false] M = .ok (.lst [.bl false, .bl false, .bl false]) M := rfl
  have anyf : bltD .any true [.lst [.bl false, .bl false, .bl false]] M = .ok (.bl false) M := blt_any true [false, false, false]
  have zip : zip2D M (.tup [.int 0, .int 1, .int 5, .int 20, .int 1000]) rs = some [.tup [.int 0, .int r0], .tup [.int 1, .int r1], .tup [.int 5, .int r2], .tup [.int 20, .int r3], .tup [.int 1000, .int r4]] := by rw [hrs]; rfl
  have lk : lockOf M rs = [] := by rw [hrs]; rfl
  have f7 : ex (ecOf (P L) 0 (callF (P L) (n + 7))) (sx 7) [some sc, some (.ref 0), some (tm f p), some (tm g q), some (tm r s), some (tm u v), x6, x7, x8, x9, none, none, none, none, none, none] M = .ok (.nx [some sc, some (.ref 0), some (tm f p), some (tm g q), some (tm r s), some (tm u v), x6, x7, x8, x9, some rs, none, none, none, none, none]) M := by
    simp [sx, z_law, mkT, SZ, compL, lcTurn, wipeE, c0, c1, c2, c3, c4, at', ml]
  have f8 : ex (ecOf (P L) 0 (callF (P L) (n + 7))) (sx 8) [some sc, some (.ref 0), some (tm f p), some (tm g q), some (tm r s), some (tm u v), x6, x7, x8, x9, some rs, none, none, none, none, none] M = .ok (.nx [some sc, some (.ref 0), some (tm f p), some (tm g q), some (tm r s), some (tm u v), x6, x7, x8, x9, some rs, none, none, none, none, none]) M := by
    simp [sx, z_law, srt, rev, neq, sub0, cat, hmx, -List.map_append]
  have f9 : ex (ecOf (P L) 0 (callF (P L) (n + 7))) (sx 9) [some sc, some (.ref 0), some (tm f p), some (tm g q), some (tm r s), some (tm u v), x6, x7, x8, x9, some rs, none, none, none, none, none] M = .ok (.nx [some sc, some (.ref 0), some (tm f p), some (tm g q), some (tm r s), some (tm u v), x6, x7, x8, x9, some rs, none, none, none, none, none]) M := by
    have t0 : ¬ ((w0 : Int) < r0) := by omega
    have t5 : ¬ ((w5 : Int) < r5) := by omega
    have t6 : ¬ ((w6 : Int) < r6) := by omega
    have t0' : decide ((w0 : Int) < r0) = false := decide_eq_false t0
    have t5' : decide ((w5 : Int) < r5) = false := decide_eq_false t5
    have t6' : decide ((w6 : Int) < r6) = false := decide_eq_false t6
    have n0 : ¬ w0 < r0 := by omega
    have n5 : ¬ w5 < r5 := by omega
    have n6 : ¬ w6 < r6 := by omega
    simp [sx, z_law, mkT, SZ, compL, lcTurn, wipeE, c0, c5, c6, e0, e5, e6, ad1, at', mlf, anyf, n0, n5, n6]
  have f10 : ex (ecOf (P L) 0 (callF (P L) (n + 7))) (sx 10) [some sc, some (.ref 0), some (tm f p), some (tm g q), some (tm r s), some (tm u v), x6, x7, x8, x9, some rs, none, none, none, none, none] M = .ok (.nx [some sc, some (.ref 0), some (tm f p), some (tm g q), some (tm r s), some (tm u v), x6, x7, x8, x9, some rs, none, none, none, none, none]) M := by
    simp [sx, z_law, sub4, mul, hsum]
  have one : ∀ (k : Int) (a : Nat), a ≤ 100 → Stays f p a k → ∃ o, gcR M.length false (callF (P L) (n + 7) M.length "_law_lag" [tm f p, tm [] [(a : Int)]] M) = .ok (optD o) M ∧ gcR M.length false (callF (P L) (n + 7) M.length "_law_is_at_most" [optD o, .int k] M) = .ok (.bl true) M := fun k a ha hs => by
    have tk : Tok [] [(a : Int)] := ⟨by simp, by simp, by simp, fun i hi => (by cases hi), fun i hi => by
      have : i = a := by simpa using hi
      omega⟩
    obtain ⟨o, ho, hr⟩ := lawlag_ok hL (n + 1) f p [] [(a : Int)] ta tk
    have am : AtMost o (some k) := ho.le_of fun t => by
      have e : dif f p [] [(a : Int)] = fun t => atT f p t - a := by
        funext t
        show atT f p t - atT [] [(a : Int)] t = _
        simp [atT, Nat.mod_one]
      rw [e]
      exact hs t
    exact ⟨o, gc_ret hr (optD_pure _) M, gc_ret (atmost_ok hL (n + 6) o (some k) am) rfl M⟩
  have mkT1 : ∀ a : Nat, a ≤ 100 → mkR (ecOf (P L) 0 (callF (P L) (n + 7))) true "Times" [.lst [], .lst [.int a]] M = .ok (tm [] [(a : Int)]) M := fun a ha => mk_times hL (n + 4) M 0 [] [(a : Int)] ⟨by simp, by simp, by simp, fun i hi => (by cases hi), fun i hi => by
      have : i = a := by simpa using hi
      omega⟩
  have ml0 : mkL true [] M = .ok (.lst []) M := rfl
  have ml1 : ∀ a : Nat, mkL true [.int a] M = .ok (.lst [.int a]) M := fun _ => rfl
  obtain ⟨o0, j0, j0'⟩ := one 0 r0 b0 d0
  obtain ⟨o1, j1, j1'⟩ := one 1 r1 b1 d1
  obtain ⟨o2, j2, j2'⟩ := one 5 r2 b2 d2
  obtain ⟨o3, j3, j3'⟩ := one 20 r3 b3 d3
  obtain ⟨o4, j4, j4'⟩ := one 1000 r4 b4 d4
  have f11 : ex (ecOf (P L) 0 (callF (P L) (n + 7))) (sx 11) [some sc, some (.ref 0), some (tm f p), some (tm g q), some (tm r s), some (tm u v), x6, x7, x8, x9, some rs, none, none, none, none, none] M = .ok (.nx [some sc, some (.ref 0), some (tm f p), some (tm g q), some (tm r s), some (tm u v), x6, x7, x8, x9, some rs, some (.int 1000), some (.int r4), none, none, none]) M := by
    simp [sx, z_law, mkT, SZ, zip, lk, forL, ml0, ml1, mkT1 r0 b0, mkT1 r1 b1, mkT1 r2 b2, mkT1 r3 b3, mkT1 r4 b4, j0, j1, j2, j3, j4, j0', j1', j2', j3', j4']
  refine ⟨some rs, some (.int 1000), some (.int r4), ?_⟩
  rw [exs_cons, f7, sqR_nx, exs_cons, f8, sqR_nx, exs_cons, f9, sqR_nx, exs_cons, f10, sqR_nx, exs_cons, f11, sqR_nx, exs_nil]
end
end K56
set_option maxHeartbeats 4000000
namespace K56
open PySem Zi
theorem keep_pure {x y : D} (v : Int) (hx : pure x = true) (hy : pure y = true) : pure (keepI (.int v) x y) = true := by
  show (true && (pure x && (pure y && true))) = true
  rw [hx, hy]; rfl
theorem gro_pure {x y : D} (hx : pure x = true) (hy : pure y = true) : pure (groI x y) = true := by
  show (pure x && (pure y && true)) = true
  rw [hx, hy]; rfl
section
variable {L : Nat} (hL : 100000 ≤ L)
include hL
/-- the statements about keeping -/
theorem law_c (n : Nat) (M : MH) (sc : D) (x6 x8 x9 x10 x11 x12 : Option D) {f p g q r s u v : List Int} (h : Four f p g q r s u v) (o : Option Int) (ho : LagOf (dif f p r s) o) :
    exs (ecOf (P L) 0 (callF (P L) (n + 7))) [sx 12, sx 13, sx 14, sx 15, sx 16, sx 17] [some sc, some (.ref 0), some (tm f p), some (tm g q), some (tm r s), some (tm u v), x6, some (optD o), x8, x9, x10, x11, x12, none, none, none] M
      = .ok (.rt (.bl true)) M := by
  have ta := h.a.t (by omega)
  have tc := h.c.t (by omega)
  have td := h.d.t (by omega)
  obtain ⟨o1, o2, xb, yb, n1, n2, pxb, pyb, hg, cb⟩ := keep2_ok hL (n + 2) f p r s u v ta tc td
  obtain ⟨o2', o1', xc, yc, n2', n1', pxc, pyc, _, cc⟩ := keep2_ok hL (n + 2) f p u v r s ta td tc
  obtain ⟨o3, x3, y3, n3, px3, py3, c3⟩ := keep1_ok hL (n + 2) f p r s ta tc
  obtain ⟨o4, x4, y4, n4, px4, py4, c4⟩ := keep1_ok hL (n + 2) f p u v ta td
  cases nd_uniq n1 n3
  cases nd_uniq n2 n4
  cases nd_uniq n1 n1'
  cases nd_uniq n2 n2'
  have ml2 : ∀ a b : D, mkL true [a, b] M = .ok (.lst [a, b]) M := fun _ _ => rfl
  have ml1 : ∀ a : D, mkL true [a] M = .ok (.lst [a]) M := fun _ => rfl
  have ok1 := fun x y z => own_keep hL (n + 6) 0 x y z M
  have ok2 := fun x y => own_gro hL (n + 6) 0 x y M
  have all2 : ∀ a b : Bool, bltD .all true [.lst [.bl a, .bl b]] M = .ok (.bl (a && b)) M := fun a b => by
    have := blt_all (m := M) true [a, b]
    simpa using this
  have at1 : ∀ x y z, attR (ecOf (P L) 0 (callF (P L) (n + 7))) (keepI x y z) "rows" M = .ok x M := fun _ _ _ => rfl
  have at2 : ∀ x y z, attR (ecOf (P L) 0 (callF (P L) (n + 7))) (keepI x y z) "group" M = .ok z M := fun _ _ _ => rfl
  cases o1 with
  | none =>
    have cb := gc_ret cb (gro_pure pxb pyb) M
    have c3 := gc_ret c3 (gro_pure px3 py3) M
    cases o2 with
    | none =>
      have c4 := gc_ret c4 (gro_pure px4 py4) M
      simp [sx, z_law, mkT, SZ, ml2, ml1, cb, c3, c4, compL, lcTurn, wipeE, ok2, all2]
    | some b =>
      have c4 := gc_ret c4 (keep_pure b px4 py4) M
      simp [sx, z_law, mkT, SZ, ml2, ml1, cb, c3, c4, compL, lcTurn, wipeE, ok1, ok2, all2]
  | some a =>
    have c3 := gc_ret c3 (keep_pure a px3 py3) M
    cases o2 with
    | none =>
      have cb := gc_ret cb (gro_pure pxb pyb) M
      have c4 := gc_ret c4 (gro_pure px4 py4) M
      simp [sx, z_law, mkT, SZ, ml2, ml1, cb, c3, c4, compL, lcTurn, wipeE, ok1, ok2, all2]
    | some b =>
      have c4 := gc_ret c4 (keep_pure b px4 py4) M
      have cb := gc_ret cb (keep_pure (max a b) pxb pyb) M
      have cc := gc_ret cc (keep_pure (max b a) pxc pyc) M
      obtain ⟨gr, rfl, hgr⟩ := hg a b rfl rfl
      obtain ⟨w, hw⟩ : ∃ w, w = max a b := ⟨_, rfl⟩
      dsimp only at cb cc
      rw [← hw] at cb hgr
      rw [show max b a = w by omega] at cc
      obtain ⟨k, hk⟩ := nd_some_lag n1 ho
      subst hk
      obtain ⟨i1, i2⟩ := nd_lag h.a.pe0 (fun t => (h.c.at_le t).1) (fun t => (h.a.at_le t).1) n1 ho
      have hne : f ++ p ≠ [] := fun e => h.a.pe0 (List.append_eq_nil_iff.mp e).2
      have cat := bin_cat f p M (by have := h.a.fl; have := h.a.pl; omega)
      have hmx := blt_mx (fz := true) hne M
      have mx2 : bltD .maxL true [.lst [.int a, .int b]] M = .ok (.int w) M := by
        rw [hw]; exact blt_maxL true a [b]
      generalize mx (f ++ p) = z at hmx i2
      have lt : ¬ w < k := by omega
      have hd : optD (some k) = .int k := rfl
      have neq : ∀ i : Int, cmpD .NotEq (.int i) (.int i) M = some false := fun i => by simp
      by_cases c : k + z < w
      · have g0 : ¬ gr = 0 := fun e => by
          have := hgr e
          omega
        simp [sx, z_law, mkT, SZ, ml2, ml1, cb, cc, c3, c4, compL, lcTurn, wipeE, ok1, all2, at1, at2, mx2, cat, hmx, lt, hd, c, g0, -List.map_append]
      · simp [sx, z_law, mkT, SZ, ml2, ml1, cb, cc, c3, c4, compL, lcTurn, wipeE, ok1, all2, at1, at2, mx2, cat, hmx, lt, hd, c, -List.map_append]
end
end K56
set_option maxHeartbeats 4000000
namespace K56
open PySem Zi
theorem exs_app (c : EC) : ∀ (as bs : List S) (ρ : Ev) (m : MH), exs c (as ++ bs) ρ m = sqR (exs c as ρ m) fun ρ m => exs c bs ρ m
  | [], bs, ρ, m => by simp
  | a :: as, bs, ρ, m => by
    rw [List.cons_append, exs_cons, exs_cons]
    cases h : ex c a ρ m with
    | ok fl m' =>
      cases fl with
      | nx ρ' =>
        rw [sqR_nx, sqR_nx]
        exact exs_app c as bs ρ' m'
      | _ => rfl
    | _ => rfl
section
variable {L : Nat} (hL : 100000 ≤ L)
include hL
theorem law_z (n : Nat) (ns : List Int) (hns : ns.length ≤ 63) : ∃ m, callF (P L) (n + 8) 0 "law" [.kls (ns.map D.int)] [] = .ok (.bl true) m := by
  obtain ⟨f, p, k1, t1, c1⟩ := times_ok hL (n + 3) ns hns 0 6 (by omega)
  obtain ⟨g, q, k2, t2, c2⟩ := times_ok hL (n + 3) ns hns k1 3 (by omega)
  obtain ⟨r, s, k3, t3, c3⟩ := times_ok hL (n + 3) ns hns k2 7 (by omega)
  obtain ⟨u, v, k4, t4, c4⟩ := times_ok hL (n + 3) ns hns k3 7 (by omega)
  have four : Four f p g q r s u v := ⟨t1, t2, t3, t4⟩
  rw [show ((6 : Nat) : Int) = 6 from rfl] at c1
  rw [show ((3 : Nat) : Int) = 3 from rfl] at c2
  rw [show ((7 : Nat) : Int) = 7 from rfl] at c3 c4
  obtain ⟨o1, o2, lg, ea⟩ := law_a hL n (Mh ns k4) (.kls (ns.map D.int)) four
  obtain ⟨x10, x11, x12, eb⟩ := law_b hL n (Mh ns k4) (.kls (ns.map D.int)) (some (tm (f ++ p) (p ++ p))) (some (optD o1)) (some (optD o1)) (some (optD o2)) four
  have ec := law_c hL n (Mh ns k4) (.kls (ns.map D.int)) (some (tm (f ++ p) (p ++ p))) (some (optD o1)) (some (optD o2)) x10 x11 x12 four o1 lg
  have e0 : ex (ecOf (P L) 0 (callF (P L) (n + 7))) (sx 0) [some (.kls (ns.map D.int)), none, none, none, none, none, none, none, none, none, none, none, none, none, none, none] [] = .ok (.nx [some (.kls (ns.map D.int)), some (.ref 0), none, none, none, none, none, none, none, none, none, none, none, none, none, none]) (Mh ns 0) := by
    have ml : mkL false [.kls (ns.map D.int), .int 0] [] = .ok (.ref 0) (Mh ns 0) := by rw [Mh_eq]; rfl
    simp [sx, z_law, ml]
  have e1 : ex (ecOf (P L) 0 (callF (P L) (n + 7))) (sx 1) [some (.kls (ns.map D.int)), some (.ref 0), none, none, none, none, none, none, none, none, none, none, none, none, none, none] (Mh ns 0) = .ok (.nx [some (.kls (ns.map D.int)), some (.ref 0), some (tm f p), some (tm g q), some (tm r s), some (tm u v), none, none, none, none, none, none, none, none, none, none]) (Mh ns k4) := by
    simp [sx, z_law, c1, c2, c3, c4, mkT, SZ]
  refine ⟨Mh ns k4, ?_⟩
  rw [callF_succ (zf := z_law) rfl rfl rfl rfl]
  have hb : z_law.body = [sx 0, sx 1] ++ ([sx 2, sx 3, sx 4, sx 5, sx 6] ++ ([sx 7, sx 8, sx 9, sx 10, sx 11] ++ [sx 12, sx 13, sx 14, sx 15, sx 16, sx 17])) := rfl
  rw [hb, exs_app]
  show bodyR (sqR (exs (ecOf (P L) 0 (callF (P L) (n + 7))) [sx 0, sx 1] [some (.kls (ns.map D.int)), none, none, none, none, none, none, none, none, none, none, none, none, none, none, none] []) _) = _
  rw [exs_cons, e0, sqR_nx, exs_cons, e1, sqR_nx, exs_nil, sqR_nx, exs_app, ea, sqR_nx, exs_app, eb, sqR_nx, ec]
  rfl
end
theorem law_true : ∀ ns : List Int, ns.length ≤ 63 → ∃ m, callF (P 100000) (40 + 1) 0 "law" [.kls (ns.map D.int)] [] = .ok (.bl true) m := fun ns h => law_z (Nat.le_refl _) 33 ns h
end K56
set_option maxHeartbeats 0
namespace K56
open PySem PySem.Spec PyProof.Rows L2 Zi
abbrev R : PySem.W.OpenRow := PySem.W.OpenLaw.row PySem.Challenge.rw_allbrokers_k56_whole_lags_and_rates
def fn : List He.DefD := tab.map (·.2.d)
abbrev hk : PySem.W.Hook := hookZ 5 (gfB (P 100000) loc) fn
def ob (s : PySem.W.SharedT) : He.AlD := obsZG 5 (gfB (P 100000) loc) fn (HandSHeadRun.getT s)
theorem ob_eq (s : PySem.W.SharedT) : ob s = hk.obs s.abs := obsZG_eq (HandSHeadRun.getT_eq s)
def nm0 : List PySem.Str := [PySem.Str.ofString "_wall", PySem.Str.ofString "Evidence", PySem.Str.ofString "Good", PySem.Str.ofString "Bad", PySem.Str.ofString "BrokerError", PySem.Str.ofString "BadTimes", PySem.Str.ofString "MOST_NUMBER", PySem.Str.ofString "MOST_TICKS", PySem.Str.ofString "is_natural", PySem.Str.ofString "are_numbers", PySem.Str.ofString "common", PySem.Str.ofString "number_at", PySem.Str.ofString "summed", PySem.Str.ofString "Times", PySem.Str.ofString "check_times", PySem.Str.ofString "joint", PySem.Str.ofString "Lag", PySem.Str.ofString "Growing", PySem.Str.ofString "lags", PySem.Str.ofString "growth_of", PySem.Str.ofString "greatest_lag", PySem.Str.ofString "MOST_LAG", PySem.Str.ofString "Keep", PySem.Str.ofString "check_groups", PySem.Str.ofString "needs", PySem.Str.ofString "least_keeping", PySem.Str.ofString "first_with", PySem.Str.ofString "Rate", PySem.Str.ofString "check_bound", PySem.Str.ofString "steady_lags"]
def nm1 : List PySem.Str := [PySem.Str.ofString "stays", PySem.Str.ofString "least_rate", PySem.Str.ofString "first_beyond", PySem.Str.ofString "_law_number", PySem.Str.ofString "_law_take", PySem.Str.ofString "_law_question", PySem.Str.ofString "_law_times", PySem.Str.ofString "_law_lag", PySem.Str.ofString "_law_is_at_most"]
abbrev names : List PySem.Str := nm0 ++ nm1
theorem run (w : World) : HandSHeadRun.RunEq R (PySem.W.view R.prog [45]) hk ob 6000 names w := by
  intro os
  kernel_rfl
end K56
set_option maxHeartbeats 0
namespace K56
open PySem Zi
theorem defs_ok : defsB (P 100000) loc tab = true := by decide +kernel
end K56
set_option maxHeartbeats 0
namespace K56
open PySem Zi
end K56
open PySem PySem.W PySem.Calls PyProof.Rows
theorem PySem.Challenge.cw_allbrokers_k56_whole_lags_and_rates_holds : PySem.Challenge.rw_allbrokers_k56_whole_lags_and_rates.Holds := by
  w_on; o_law
  refine HandSHeadRun.head_any (r := OpenLaw.row PySem.Challenge.rw_allbrokers_k56_whole_lags_and_rates) (q := view (OpenLaw.row PySem.Challenge.rw_allbrokers_k56_whole_lags_and_rates).prog [45]) (H := K56.hk) (ob := K56.ob) (M := 6000) (loose := K56.names) (d := HandSHeadRun.topDef (OpenLaw.row PySem.Challenge.rw_allbrokers_k56_whole_lags_and_rates).prog 45) (kwd := []) K56.ob_eq
    (by kernel_rfl) (fun s => by kernel_rfl) K56.run (by kernel_rfl) (by kernel_rfl) (by kernel_rfl) (by rfl) (by first | assumption | decide +kernel) (by decide +kernel) ⟨rfl, rfl, rfl, rfl, rfl, by decide +kernel⟩ ?hw ?hc
  case hw => w_witness2
  case hc =>
    refine Zi.walk_ofZ (l := PySem.Challenge.rw_allbrokers_k56_whole_lags_and_rates) (n := 63) (k := 3 * 40 + 2 + 1) (x := "_law_script") rfl (by decide) (by kernel_rfl) ⟨rfl, by decide, by decide⟩ ?F
    case F =>
      intro w mg fa h Y G hmg0
      obtain ⟨K, KX, c⟩ := Y
      have hmg : mg ("law" : PySem.Str) = some (.ref fa) := by
        have e : (HandSHeadRun.topDef (OpenLaw.row PySem.Challenge.rw_allbrokers_k56_whole_lags_and_rates).prog 45).name = ("law" : PySem.Str) := by kernel_rfl
        rw [← e]
        exact hmg0
      obtain ⟨fd, sp, h1, h2, h3⟩ := Zi.law_end (prog := (PySem.Challenge.rw_allbrokers_k56_whole_lags_and_rates).prog) (w := w) KX G c K56.defs_ok (by decide +kernel) hmg (by decide +kernel) (zf := K56.z_law) (z := K56.dz_law) (x := "_law_script") (by kernel_rfl) (by kernel_rfl) (by kernel_rfl) K56.law_true
      exact ⟨K, fd, sp, KX, h1, h2, h3⟩
